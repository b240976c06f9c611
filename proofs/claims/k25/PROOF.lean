import PyProof.Rows.All
import Wide.All
import OpenK.AllK
import Wide.FinOn
import HandS.ForMost
import HandS.Deep
import HandS.TupAny
import HandS.Zip
import HandS.Style
import HandS.TupMul
import HandS.Strs
import HandS.Conv
import HandS.RaiseMore
import HandS.IsInst
import KE.GoesEnum
import KE.GoesMore
import HandS.TryOnly
import HandS.More
import HandS.Small
import HandS.Wide
import HandS.Iter
import HandS.SortInts
import KE.DataMinMax
import KE.SortData
import HandS.Codes
import HandS.WordsDict
import PyProof.Rows.IntBool
import HandS.SortKw
import KE.DataCmp
import HandS.Sort
import KE.DataFind
import KE.KTupSum
import KE.KDictZip
import PyProof.ListRange
import HandS.TupSets
import KE.KDictSum
import HandS.WideBits
import HandS.TupLe
import PySem.Challenge.RW_rowswithin_k25_whole_main_closed_classes
set_option Elab.async false
set_option linter.all false
set_option maxRecDepth 100000
set_option maxHeartbeats 4000000
namespace Tr
open PySem L2

/-! data trees over a known heap -/
abbrev D := PyData
/-- a tuple whose object is told (it has no dict of its own), or one that the module holds -/
def TupK (K : PySem.W.Frag) (G : Hp) (a : Addr) (xs : List V) : Prop :=
  (∃ o : Obj, o.dict = none ∧ G a = some (.frz o (.tup xs))) ∨
    ∃ (o : Obj) (its : Array Value) (n : Nat), K.lookup a = some o ∧ o.cls = .type "tuple" ∧ o.dict = none ∧ o.data = .seq its n ∧ its.size ≤ sizeLine ∧ Vals xs its.toList
theorem TupK.sq {K : PySem.W.Frag} {G : Hp} {a : Addr} {xs : List V} (h : TupK K G a xs) : SqT K G a xs := by
  rcases h with ⟨o, _, e⟩ | ⟨o, its, n, h1, h2, _, h4, h5, h6⟩
  · exact .inl (.inr ⟨o, e⟩)
  · exact .inr ⟨o, its, n, h1, h2, h4, h5, h6⟩
theorem TupK.mono {K : PySem.W.Frag} {G G' : Hp} {a : Addr} {xs : List V} (e : Same G G') (h : TupK K G a xs) : TupK K G' a xs := by
  rcases h with ⟨o, h1, h2⟩ | h
  · exact .inl ⟨o, h1, e _ _ h2⟩
  · exact .inr h
def flatD : V → Option D
  | .non => some .none
  | .bl b => some (.bool b)
  | .int i => some (.int i)
  | .str x => some (.str x)
  | _ => none
def keyDt : Key → D
  | .inl i => .int i
  | .inr x => .str x
/-- a dict of flat values, as data -/
inductive FlatKv : List (Key × V) → List (D × D) → Prop
  | nil : FlatKv [] []
  | cons {k : Key} {v : V} {d : D} {ws : List (Key × V)} {out : List (D × D)} : flatD v = some d → FlatKv ws out → FlatKv ((k, v) :: ws) ((keyDt k, d) :: out)
mutual
inductive Rp (K : PySem.W.Frag) (G : Hp) : V → PyData → Prop
  | non : Rp K G .non .none
  | bl (b : Bool) : Rp K G (.bl b) (.bool b)
  | int (i : Int) : Rp K G (.int i) (.int i)
  | str (x : Str) : Rp K G (.str x) (.str x)
  | lst {a : Addr} {xs : List V} {ds : List PyData} : G a = some (.lst xs) → RpAll K G xs ds → Rp K G (.ref a) (.list ds)
  | tup {a : Addr} {xs : List V} {ds : List PyData} : TupK K G a xs → RpAll K G xs ds → Rp K G (.ref a) (.tuple ds)
  | scr {a : Addr} {ns : List Int} : SqL K G a (ns.map V.int) → Rp K G (.ref a) (.dict [(.none, .list (ns.map PyData.int))])
  | dfl {a : Addr} {ws : List (Key × V)} {out : List (D × D)} : G a = some (.dK ws) → FlatKv ws out → Rp K G (.ref a) (.dict out)
inductive RpAll (K : PySem.W.Frag) (G : Hp) : List V → List PyData → Prop
  | nil : RpAll K G [] []
  | cons {v : V} {vs : List V} {d : PyData} {ds : List PyData} : Rp K G v d → RpAll K G vs ds → RpAll K G (v :: vs) (d :: ds)
end

section
variable {K : PySem.W.Frag} {G G' H : Hp}
mutual
theorem Rp.mono (e : Same G G') : ∀ (d : PyData) (v : V), Rp K G v d → Rp K G' v d
  | .none, _, h => by cases h; exact .non
  | .bool b, _, h => by cases h; exact .bl b
  | .int i, _, h => by cases h; exact .int i
  | .str x, _, h => by cases h; exact .str x
  | .list ds, _, h => by
    cases h with
    | lst h1 h2 => exact .lst (e _ _ h1) (RpAll.mono e ds _ h2)
  | .tuple ds, _, h => by
    cases h with
    | tup h1 h2 =>
      exact .tup (h1.mono e) (RpAll.mono e ds _ h2)
  | .dict _, _, h => by
    cases h with
    | scr h1 => exact .scr (Same.seq e h1)
    | dfl h1 h2 => exact .dfl (e _ _ h1) h2
theorem RpAll.mono (e : Same G G') : ∀ (ds : List PyData) (vs : List V), RpAll K G vs ds → RpAll K G' vs ds
  | [], _, h => by cases h; exact .nil
  | d :: ds, _, h => by
    cases h with
    | cons h1 h2 => exact .cons (Rp.mono e d _ h1) (RpAll.mono e ds _ h2)
end
mutual
theorem Rp.dp : ∀ (d : PyData) (v : V), Rp K G v d → d.hasDict = false → Dp K G v d
  | .none, _, h, _ => by cases h; exact .non
  | .bool b, _, h, _ => by cases h; exact .bl b
  | .int i, _, h, _ => by cases h; exact .int i
  | .str x, _, h, _ => by cases h; exact .str x
  | .list ds, _, h, hd => by
    cases h with
    | lst h1 h2 => exact .lst (SqL.of h1) (RpAll.dp ds _ h2 (by simpa only [PyData.hasDict] using hd))
  | .tuple ds, _, h, hd => by
    cases h with
    | tup h1 h2 => exact .tup h1.sq (RpAll.dp ds _ h2 (by simpa only [PyData.hasDict] using hd))
  | .dict _, _, h, hd => by simp only [PyData.hasDict, Bool.true_eq_false] at hd
theorem RpAll.dp : ∀ (ds : List PyData) (vs : List V), RpAll K G vs ds → PyData.hasDictAll ds = false → DpAll K G vs ds
  | [], _, h, _ => by cases h; exact .nil
  | d :: ds, _, h, hd => by
    simp only [PyData.hasDictAll, Bool.or_eq_false_iff] at hd
    cases h with
    | cons h1 h2 => exact .cons (Rp.dp d _ h1 hd.1) (RpAll.dp ds _ h2 hd.2)
end
theorem RpAll.length : ∀ {vs : List V} {ds : List PyData}, RpAll K G vs ds → vs.length = ds.length
  | _, _, .nil => rfl
  | _, _, .cons _ h => by rw [List.length_cons, List.length_cons, RpAll.length h]
theorem RpAll.get : ∀ {vs : List V} {ds : List PyData} {i : Nat} {d : PyData}, RpAll K G vs ds → ds[i]? = some d → ∃ v, vs[i]? = some v ∧ Rp K G v d
  | _, _, _, _, .nil, e => by simp at e
  | _, _, 0, _, .cons h _, e => by simp at e; subst e; exact ⟨_, rfl, h⟩
  | _, _, i + 1, d, .cons _ t, e => by
    obtain ⟨v, h1, h2⟩ := RpAll.get (i := i) (d := d) t (by simpa using e)
    exact ⟨v, by simpa using h1, h2⟩
theorem RpAll.append : ∀ {vs ws : List V} {ds es : List PyData}, RpAll K G vs ds → RpAll K G ws es → RpAll K G (vs ++ ws) (ds ++ es)
  | _, _, _, _, .nil, h => h
  | _, _, _, _, .cons a t, h => .cons a (RpAll.append t h)
theorem RpAll.take : ∀ {vs : List V} {ds : List PyData} (n : Nat), RpAll K G vs ds → RpAll K G (vs.take n) (ds.take n)
  | _, _, 0, _ => .nil
  | _, _, _ + 1, .nil => .nil
  | _, _, n + 1, .cons a t => .cons a (RpAll.take n t)
theorem RpAll.drop : ∀ {vs : List V} {ds : List PyData} (n : Nat), RpAll K G vs ds → RpAll K G (vs.drop n) (ds.drop n)
  | _, _, 0, h => h
  | _, _, _ + 1, .nil => .nil
  | _, _, n + 1, .cons _ t => RpAll.drop n t
theorem RpAll.set {v : V} {d : PyData} (h : Rp K G v d) : ∀ {vs : List V} {ds : List PyData} (n : Nat), RpAll K G vs ds → RpAll K G (vs.set n v) (ds.set n d)
  | _, _, _, .nil => .nil
  | _, _, 0, .cons _ t => .cons h t
  | _, _, n + 1, .cons a t => .cons a (RpAll.set h n t)
theorem RpAll.erase : ∀ {vs : List V} {ds : List PyData} (n : Nat), RpAll K G vs ds → RpAll K G (vs.eraseIdx n) (ds.eraseIdx n)
  | _, _, _, .nil => .nil
  | _, _, 0, .cons _ t => t
  | _, _, n + 1, .cons a t => .cons a (RpAll.erase n t)
theorem RpAll.reverse : ∀ {vs : List V} {ds : List PyData}, RpAll K G vs ds → RpAll K G vs.reverse ds.reverse
  | _, _, .nil => .nil
  | _, _, .cons a t => by
    rw [List.reverse_cons, List.reverse_cons]
    exact RpAll.append (RpAll.reverse t) (.cons a .nil)
theorem RpAll.repl : ∀ {vs : List V} {ds : List PyData} (n : Nat), RpAll K G vs ds → RpAll K G (List.replicate n vs).flatten (List.replicate n ds).flatten
  | _, _, 0, _ => .nil
  | vs, ds, n + 1, h => by
    rw [List.replicate_succ, List.replicate_succ, List.flatten_cons, List.flatten_cons]
    exact RpAll.append h (RpAll.repl n h)
theorem RpAll.ints : ∀ (ns : List Int), RpAll K G (ns.map V.int) (ns.map PyData.int)
  | [] => .nil
  | n :: ns => .cons (.int n) (RpAll.ints ns)
theorem RpAll.ints_inv : ∀ {ns : List Int} {vs : List V}, RpAll K G vs (ns.map PyData.int) → vs = ns.map V.int
  | [], _, h => by cases h; rfl
  | n :: ns, _, h => by
    cases h with
    | cons h1 h2 =>
      cases h1
      rw [List.map_cons, RpAll.ints_inv h2]
end

/-! slots of the tree environment -/
/-- an object of one's own: a list, a dict of keys that are ints and texts -/
inductive Ob where
  | l (ds : List D)
  | d (kvs : List (Key × D))
  | t (kvs : List (List Int × D))
inductive RpKV (K : PySem.W.Frag) (G : Hp) {κ : Type} : List (κ × V) → List (κ × D) → Prop
  | nil : RpKV K G [] []
  | cons {k : κ} {v : V} {d : D} {ws : List (κ × V)} {kvs : List (κ × D)} : Rp K G v d → RpKV K G ws kvs → RpKV K G ((k, v) :: ws) ((k, d) :: kvs)
theorem RpKV.mono {K : PySem.W.Frag} {G G' : Hp} {κ : Type} (e : Same G G') : ∀ {ws : List (κ × V)} {kvs : List (κ × D)}, RpKV K G ws kvs → RpKV K G' ws kvs
  | _, _, .nil => .nil
  | _, _, .cons a t => .cons (Rp.mono e _ _ a) (RpKV.mono e t)
/-- an entry of a dict whose keys are tuples of ints -/
def entT (x : List Int × Addr × Value) : DictEntry := ⟨reduceHash (Builtin.Tuple.tupleHashOf (x.1.map hashInt)), .ref x.2.1, x.2.2⟩
/-- the one object of such a dict -/
def TD (a : Addr) (xs : List (List Int × Addr × Value)) : Heap → Prop := fun h => (a == sysModules) = false ∧ xs.length ≤ sizeLine ∧ ∃ o es ep, h.get? a = some o ∧ o.ExactDict ∧ o.data = .dict es ep ∧ es.toList = xs.map entT ∧ (xs.map (·.1)).Nodup
/-- its keys are known tuples -/
inductive KeyR (K : PySem.W.Frag) (G : Hp) : List (List Int × V) → List (List Int × Addr × Value) → Prop
  | nil : KeyR K G [] []
  | cons {k : List Int} {v : V} {b : Addr} {u : Value} {ws : List (List Int × V)} {xs : List (List Int × Addr × Value)} : TupK K G b (k.map V.int) → RelV v u → KeyR K G ws xs → KeyR K G ((k, v) :: ws) ((k, b, u) :: xs)
theorem KeyR.mono {K : PySem.W.Frag} {G G' : Hp} (e : Same G G') : ∀ {ws : List (List Int × V)} {xs : List (List Int × Addr × Value)}, KeyR K G ws xs → KeyR K G' ws xs
  | _, _, .nil => .nil
  | _, _, .cons h r t => .cons (h.mono e) r (t.mono e)
inductive ObR (K : PySem.W.Frag) (G : Hp) (a : Addr) : HO → Ob → Prop
  | l {vs : List V} {ds : List D} : RpAll K G vs ds → ObR K G a (.lst vs) (.l ds)
  | d {ws : List (Key × V)} {kvs : List (Key × D)} : RpKV K G ws kvs → ObR K G a (.dK ws) (.d kvs)
  | t {xs : List (List Int × Addr × Value)} {ws : List (List Int × V)} {kvs : List (List Int × D)} : KeyR K G ws xs → RpKV K G ws kvs → ObR K G a (.ext (TD a xs)) (.t kvs)
theorem ObR.mono {K : PySem.W.Frag} {G G' : Hp} (e : Same G G') {a : Addr} {ho : HO} {o : Ob} (h : ObR K G a ho o) : ObR K G' a ho o := by
  cases h with
  | l h => exact .l (RpAll.mono e _ _ h)
  | d h => exact .d (RpKV.mono e h)
  | t h r => exact .t (h.mono e) (RpKV.mono e r)
inductive Sl where
  | no
  | im (d : D)
  | own (lent : Bool) (o : Ob)
  | pot
abbrev Sl.ow (lent : Bool) (ds : List D) : Sl := .own lent (.l ds)
abbrev Rn := List Sl
inductive R where
  | im (d : D)
  | tm (o : Ob)
  | sl (i : Nat)
  | pot
  | dead
abbrev R.tmp (ds : List D) : R := .tm (.l ds)
/-- an exception of the program: its class, its fields -/
structure Xn where
  cls : Str
  fs : List (Str × D)

abbrev Pa := Option (Addr × Addr)
abbrev Le := Nat → Option Addr

/-- the drawing pot: a list or a dict that holds a list of great cells and two numbers -/
def potK (l : Addr) (m k : Int) : List (Key × V) := [(.inr "great", .ref l), (.inr "mixed", .int m), (.inr "turns", .int k)]
def PotC (l : Addr) (o : HO) : Prop := ∃ m k : Int, o = .dK (potK l m k) ∧ 0 ≤ m ∧ 0 ≤ k
def PotOk (H : Hp) (p : Addr × Addr) : Prop :=
  p.1 ≠ p.2 ∧ (∃ o, H p.1 = some o ∧ PotC p.2 o) ∧ ∃ cs : List Int, H p.2 = some (.lst (cs.map V.int)) ∧ (∀ c ∈ cs, 0 ≤ c) ∧ cs.length ≤ 64
theorem PotOk.at_ {H : Hp} {p : Addr × Addr} (h : PotOk H p) : H p.1 ≠ none ∧ H p.2 ≠ none := by
  obtain ⟨_, ⟨o, h1, _⟩, cs, h2, _⟩ := h
  exact ⟨fun z => (by rw [h1] at z; cases z), fun z => (by rw [h2] at z; cases z)⟩
theorem PotOk.same {H H' : Hp} {p : Addr × Addr} (h : PotOk H p) (e1 : H' p.1 = H p.1) (e2 : H' p.2 = H p.2) : PotOk H' p := by
  obtain ⟨h0, ⟨o, h1, h3⟩, cs, h2, h4⟩ := h
  exact ⟨h0, ⟨o, e1.trans h1, h3⟩, cs, e2.trans h2, h4⟩
theorem PotOk.upd {H : Hp} {p : Addr × Addr} {a : Addr} {o : HO} (h : PotOk H p) (h1 : p.1 ≠ a) (h2 : p.2 ≠ a) : PotOk (L2.upd H a o) p := h.same (upd_ne h1) (upd_ne h2)
def PotAt (pa : Pa) (b : Addr) : Prop := ∃ p, pa = some p ∧ (b = p.1 ∨ b = p.2)
def Own (σ : St) (ρ : Rn) (b : Addr) : Prop := ∃ (i : Nat) (l : Bool) (o : Ob), ρ[i]? = some (Sl.own l o) ∧ σ[i]? = some (some (V.ref b))

def SlR (K : PySem.W.Frag) (pa : Pa) (le : Le) (G H : Hp) (i : Nat) (ov : Option V) : Sl → Prop
  | .no => True
  | .im d => ∃ v, ov = some v ∧ Rp K G v d
  | .own l o => ∃ a ho, ov = some (.ref a) ∧ G a = none ∧ H a = some ho ∧ ObR K G a ho o ∧ (l = true → le i = some a)
  | .pot => ∃ p, pa = some p ∧ ov = some (.ref p.1)

structure Rel (K : PySem.W.Frag) (pa : Pa) (le : Le) (G H : Hp) (σ : St) (ρ : Rn) : Prop where
  ext : Same G H
  len : ρ.length = σ.length
  sl : ∀ (i : Nat) (s : Sl), ρ[i]? = some s → ∃ ov, σ[i]? = some ov ∧ SlR K pa le G H i ov s
  dis : ∀ (i j : Nat) (l l' : Bool) (ds ds' : Ob) (a : Addr), ρ[i]? = some (Sl.own l ds) → ρ[j]? = some (Sl.own l' ds') → σ[i]? = some (some (V.ref a)) → σ[j]? = some (some (V.ref a)) → i = j
  pot : ∀ p, pa = some p → PotOk H p ∧ G p.1 = none ∧ G p.2 = none
  sep : ∀ b, Own σ ρ b → ¬ PotAt pa b

/-- what has become of a known heap and the heap -/
structure Aft (pa : Pa) (G H : Hp) (σ : St) (ρ : Rn) (G' H' : Hp) : Prop where
  g : Same G G'
  h : ∀ b o, H b = some o → ¬ Own σ ρ b → ¬ PotAt pa b → H' b = some o
  f : ∀ b, G' b ≠ none → G b ≠ none ∨ H b = none ∨ Own σ ρ b
  p : ∀ b, H' b = none → H b = none
/-- what is owned behind -/
def Ow (H : Hp) (σ : St) (ρ : Rn) (σ' : St) (ρ' : Rn) : Prop := ∀ b, Own σ' ρ' b → Own σ ρ b ∨ H b = none

section
variable {K : PySem.W.Frag} {pa : Pa} {le : Le} {G H G1 H1 G2 H2 : Hp} {σ σ1 σ2 : St} {ρ ρ1 ρ2 : Rn}
theorem Rel.owT (r : Rel K pa le G H σ ρ) {b : Addr} (h : Own σ ρ b) : H b ≠ none ∧ G b = none := by
  obtain ⟨i, l, ds, h1, h2⟩ := h
  obtain ⟨ov, e, a, vs, e2, g, hh, _⟩ := r.sl i _ h1
  rw [h2] at e; cases e
  cases e2
  exact ⟨fun z => (by rw [hh] at z; cases z), g⟩
theorem Rel.potT (r : Rel K pa le G H σ ρ) {b : Addr} (h : PotAt pa b) : H b ≠ none ∧ G b = none := by
  obtain ⟨p, e, hb⟩ := h
  obtain ⟨h1, g1, g2⟩ := r.pot p e
  rcases hb with rfl | rfl
  · exact ⟨h1.at_.1, g1⟩
  · exact ⟨h1.at_.2, g2⟩
theorem Aft.refl : Aft pa G H σ ρ G H := ⟨Same.refl G, fun _ _ e _ _ => e, fun _ h => .inl h, fun _ h => h⟩
theorem Ow.refl : Ow H σ ρ σ ρ := fun _ h => .inl h
theorem Aft.trans (a : Aft pa G H σ ρ G1 H1) (r : Rel K pa le G H σ ρ) (r1 : Rel K pa le G1 H1 σ1 ρ1) (o : Ow H σ ρ σ1 ρ1) (c : Aft pa G1 H1 σ1 ρ1 G2 H2) : Aft pa G H σ ρ G2 H2 where
  g := a.g.trans c.g
  h := fun b ob e n1 n2 => c.h b ob (a.h b ob e n1 n2) (fun z => by
    rcases o b z with z | z
    · exact n1 z
    · rw [e] at z; cases z) n2
  f := fun b hb => by
    rcases c.f b hb with z | z | z
    · exact a.f b z
    · exact .inr (.inl (a.p b z))
    · rcases o b z with z | z
      · exact .inr (.inr z)
      · exact .inr (.inl z)
  p := fun b hb => a.p b (c.p b hb)
theorem Ow.trans (a : Aft pa G H σ ρ G1 H1) (o : Ow H σ ρ σ1 ρ1) (o2 : Ow H1 σ1 ρ1 σ2 ρ2) : Ow H σ ρ σ2 ρ2 := fun b h => by
  rcases o2 b h with z | z
  · exact o b z
  · exact .inr (a.p b z)
end

/-! results -/
def RR (K : PySem.W.Frag) (pa : Pa) (G H : Hp) (σ : St) (ρ : Rn) (v : V) : R → Prop
  | .im d => Rp K G v d
  | .tm o => ∃ a ho, v = .ref a ∧ G a = none ∧ H a = some ho ∧ ObR K G a ho o ∧ ¬ Own σ ρ a ∧ ¬ PotAt pa a
  | .dead => True
  | .sl i => σ[i]? = some (some v)
  | .pot => ∃ p, pa = some p ∧ v = .ref p.1
/-- a fresh list is fresh behind an entry -/
def Frs (H : Hp) (σ : St) (ρ : Rn) (v : V) : R → Prop
  | .tm _ => ∀ a, v = .ref a → H a = none ∨ Own σ ρ a
  | _ => True
/-- the results that wait while others are reckoned hold no fresh list -/
def R.calm : R → Prop
  | .tm _ => False
  | _ => True
def pin : R → R
  | .tm (.l ds) => .im (.list ds)
  | .tm (.d _) => .dead
  | .tm (.t _) => .dead
  | r => r
theorem pin_calm (r : R) : (pin r).calm := by
  cases r with
  | tm o => cases o <;> trivial
  | _ => trivial
/-- what a result shows as it stands -/
def vw (ρ : Rn) : R → Option D
  | .im d => some d
  | .tmp ds => some (.list ds)
  | .sl i => match ρ[i]? with
    | some (.own _ (.l ds)) => some (.list ds)
    | some (.im d) => some d
    | _ => none
  | _ => none
/-- .. shut for good -/
def fz (r : R) (ρ : Rn) (Q : D → Rn → Prop) : Prop :=
  match r with
  | .im d => Q d ρ
  | .tmp ds => Q (.list ds) ρ
  | .sl i => match ρ[i]? with
    | some (.own _ (.l ds)) => Q (.list ds) (ρ.set i (.im (.list ds)))
    | some (.im d) => Q d ρ
    | _ => False
  | _ => False

section
variable {K : PySem.W.Frag} {pa : Pa} {le : Le} {G H G0 H0 G1 H1 G2 H2 : Hp} {σ σ0 σ1 σ2 : St} {ρ ρ0 ρ1 ρ2 : Rn} {v : V} {r : R}

theorem calm_RR (hc : r.calm) (e : Same G G1) (h : RR K pa G H σ ρ v r) : RR K pa G1 H1 σ ρ1 v r := by
  cases r with
  | im d => exact Rp.mono e d v h
  | tm ds => exact hc.elim
  | sl i => exact h
  | pot => exact h
  | dead => trivial

/-- a list that no slot owns is known from now on -/
theorem know (R0 : Rel K pa le G0 H0 σ0 ρ0) (A : Aft pa G0 H0 σ0 ρ0 G H) (r : Rel K pa le G H σ ρ) {a : Addr} {ho : HO} (g : G a = none) (h : H a = some ho) (n1 : ¬ Own σ ρ a) (n2 : ¬ PotAt pa a) (fr : H0 a = none ∨ Own σ0 ρ0 a) :
    Same G (upd G a ho) ∧ Aft pa G0 H0 σ0 ρ0 (upd G a ho) H ∧ Rel K pa le (upd G a ho) H σ ρ := by
  have s1 : Same G (upd G a ho) := fun b o e => by rw [upd_ne (ne_of_none e g)]; exact e
  refine ⟨s1, ⟨A.g.trans s1, A.h, fun b hb => ?_, A.p⟩, ⟨fun b o e => ?_, r.len, fun i s e => ?_, r.dis, fun p e => ?_, r.sep⟩⟩
  · by_cases hba : b = a
    · rw [hba]; exact .inr fr
    · rw [upd_ne hba] at hb; exact A.f b hb
  · by_cases hba : b = a
    · rw [hba, upd_same] at e; cases e; rw [hba]; exact h
    · rw [upd_ne hba] at e; exact r.ext b o e
  · obtain ⟨ov, e1, e2⟩ := r.sl i s e
    refine ⟨ov, e1, ?_⟩
    cases s with
    | no => trivial
    | im d =>
      obtain ⟨x, e3, e4⟩ := e2
      exact ⟨x, e3, Rp.mono s1 d x e4⟩
    | own l ds =>
      obtain ⟨b, xs, e3, e4, e5, e6, e7⟩ := e2
      have hne : b ≠ a := fun z => n1 ⟨i, l, ds, e, by rw [e1, e3, z]⟩
      exact ⟨b, xs, e3, by rw [upd_ne hne]; exact e4, e5, e6.mono s1, e7⟩
    | pot => exact e2
  · obtain ⟨q, g1, g2⟩ := r.pot p e
    have h1 : p.1 ≠ a := fun z => n2 ⟨p, e, .inl z.symm⟩
    have h2 : p.2 ≠ a := fun z => n2 ⟨p, e, .inr z.symm⟩
    exact ⟨q, by rw [upd_ne h1]; exact g1, by rw [upd_ne h2]; exact g2⟩
theorem pin_ok (R0 : Rel K pa le G0 H0 σ0 ρ0) (A : Aft pa G0 H0 σ0 ρ0 G H) (rl : Rel K pa le G H σ ρ) (h : RR K pa G H σ ρ v r) (fr : Frs H0 σ0 ρ0 v r) :
    ∃ G', Same G G' ∧ Aft pa G0 H0 σ0 ρ0 G' H ∧ Rel K pa le G' H σ ρ ∧ RR K pa G' H σ ρ v (pin r) := by
  cases r with
  | im d => exact ⟨G, Same.refl G, A, rl, h⟩
  | sl i => exact ⟨G, Same.refl G, A, rl, h⟩
  | pot => exact ⟨G, Same.refl G, A, rl, h⟩
  | dead => exact ⟨G, Same.refl G, A, rl, trivial⟩
  | tm o =>
    cases o with
    | d kvs => exact ⟨G, Same.refl G, A, rl, trivial⟩
    | t kvs => exact ⟨G, Same.refl G, A, rl, trivial⟩
    | l ds =>
      obtain ⟨a, ho, rfl, g, hh, ra, n1, n2⟩ := h
      cases ra with
      | l ra =>
        obtain ⟨s1, A1, r1⟩ := know R0 A rl g hh n1 n2 (fr a rfl)
        exact ⟨_, s1, A1, r1, .lst upd_same (RpAll.mono s1 _ _ ra)⟩
/-- a slot whose list is known from now on -/
theorem Own.set_im {d : D} {i : Nat} {b : Addr} (h : Own σ (ρ.set i (.im d)) b) : Own σ ρ b ∧ ∀ (l : Bool) (ds : Ob), ρ[i]? = some (Sl.own l ds) → ∀ a : Addr, σ[i]? = some (some (V.ref a)) → (∀ (j : Nat) (l : Bool) (ds : Ob), ρ[j]? = some (Sl.own l ds) → σ[j]? = some (some (V.ref a)) → i = j) → b ≠ a := by
  obtain ⟨j, l, ds, h1, h2⟩ := h
  by_cases hij : i = j
  · subst hij
    by_cases hi : i < ρ.length
    · rw [List.getElem?_set_self hi] at h1; cases h1
    · rw [List.getElem?_eq_none (by simpa using hi)] at h1; cases h1
  · rw [List.getElem?_set_ne hij] at h1
    refine ⟨⟨j, l, ds, h1, h2⟩, fun l' ds' e1 a e2 hu z => ?_⟩
    subst z
    exact hij (hu j l ds h1 h2)
theorem fz_ok {Q : D → Rn → Prop} (R0 : Rel K pa le G0 H0 σ0 ρ0) (A : Aft pa G0 H0 σ0 ρ0 G H) (O : Ow H0 σ0 ρ0 σ ρ) (rl : Rel K pa le G H σ ρ) (h : RR K pa G H σ ρ v r) (fr : Frs H0 σ0 ρ0 v r) (q : fz r ρ Q) :
    ∃ G' d ρ', Same G G' ∧ Aft pa G0 H0 σ0 ρ0 G' H ∧ Ow H0 σ0 ρ0 σ ρ' ∧ Ow H σ ρ σ ρ' ∧ Rel K pa le G' H σ ρ' ∧ Rp K G' v d ∧ Q d ρ' := by
  cases r with
  | im d => exact ⟨G, d, ρ, Same.refl G, A, O, Ow.refl, rl, h, q⟩
  | pot => exact q.elim
  | dead => exact q.elim
  | tm o =>
    cases o with
    | d kvs => exact q.elim
    | t kvs => exact q.elim
    | l ds =>
      obtain ⟨G', s1, A1, r1, h1⟩ := pin_ok R0 A rl h fr
      exact ⟨G', .list ds, ρ, s1, A1, O, Ow.refl, r1, h1, q⟩
  | sl i =>
    have q' : (match ρ[i]? with
      | some (.own _ (.l ds)) => Q (.list ds) (ρ.set i (.im (.list ds)))
      | some (.im d) => Q d ρ
      | _ => False) := q
    cases e : ρ[i]? with
    | none => rw [e] at q'; exact q'.elim
    | some s =>
      rw [e] at q'
      have h' : σ[i]? = some (some v) := h
      cases s with
      | no => exact q'.elim
      | pot => exact q'.elim
      | im d =>
        obtain ⟨ov, e1, x, e3, e4⟩ := rl.sl i _ e
        rw [h'] at e1; cases e1; cases e3
        exact ⟨G, d, ρ, Same.refl G, A, O, Ow.refl, rl, e4, q'⟩
      | own l o =>
       cases o with
       | d kvs => exact q'.elim
       | t kvs => exact q'.elim
       | l ds =>
        obtain ⟨ov, e1, a, ho, e3, e4, e5, e6, e7⟩ := rl.sl i _ e
        rw [h'] at e1; cases e1; cases e3
        cases e6 with
        | @l xs _ e6 =>
          have hown : Own σ ρ a := ⟨i, l, _, e, h'⟩
          have fr' : H0 a = none ∨ Own σ0 ρ0 a := (O a hown).symm
          have hu : ∀ (j : Nat) (l : Bool) (ds : Ob), ρ[j]? = some (Sl.own l ds) → σ[j]? = some (some (V.ref a)) → i = j := fun j l' ds' z1 z2 => rl.dis i j l l' _ ds' a e z1 h' z2
          -- the environment without the slot's list
          have os : ∀ b, Own σ (ρ.set i (.im (.list ds))) b → Own σ ρ b ∧ b ≠ a := fun b hb => ⟨hb.set_im.1, hb.set_im.2 l _ e a h' hu⟩
          have hil : i < ρ.length := (List.getElem?_eq_some_iff.mp e).1
          have s1 : Same G (upd G a (.lst xs)) := fun b o z => by rw [upd_ne (ne_of_none z e4)]; exact z
          refine ⟨upd G a (.lst xs), .list ds, ρ.set i (.im (.list ds)), s1, ⟨A.g.trans s1, A.h, fun b hb => ?_, A.p⟩, fun b hb => O b (os b hb).1, fun b hb => .inl (os b hb).1, ⟨fun b o z => ?_, by rw [List.length_set]; exact rl.len, fun j s z => ?_, fun j k l1 l2 d1 d2 b z1 z2 z3 z4 => ?_, fun p z => ?_, fun b hb => rl.sep b (os b hb).1⟩, .lst upd_same (RpAll.mono s1 _ _ e6), q'⟩
          · by_cases hba : b = a
            · rw [hba]; exact .inr fr'
            · rw [upd_ne hba] at hb; exact A.f b hb
          · by_cases hba : b = a
            · rw [hba, upd_same] at z; cases z; rw [hba]; exact e5
            · rw [upd_ne hba] at z; exact rl.ext b o z
          · by_cases hij : i = j
            · subst hij
              rw [List.getElem?_set_self hil] at z; cases z
              exact ⟨_, h', _, rfl, .lst upd_same (RpAll.mono s1 _ _ e6)⟩
            · rw [List.getElem?_set_ne hij] at z
              obtain ⟨ov, z1, z2⟩ := rl.sl j s z
              refine ⟨ov, z1, ?_⟩
              cases s with
              | no => trivial
              | im d =>
                obtain ⟨x, z3, z4⟩ := z2
                exact ⟨x, z3, Rp.mono s1 d x z4⟩
              | own l' ds' =>
                obtain ⟨b, ys, z3, z4, z5, z6, z7⟩ := z2
                have hne : b ≠ a := fun w => hij (hu j l' ds' z (by rw [z1, z3, w]))
                exact ⟨b, ys, z3, by rw [upd_ne hne]; exact z4, z5, z6.mono s1, z7⟩
              | pot => exact z2
          · have n1 : i ≠ j := fun w => by subst w; rw [List.getElem?_set_self hil] at z1; cases z1
            have n2 : i ≠ k := fun w => by subst w; rw [List.getElem?_set_self hil] at z2; cases z2
            rw [List.getElem?_set_ne n1] at z1
            rw [List.getElem?_set_ne n2] at z2
            exact rl.dis j k l1 l2 d1 d2 b z1 z2 z3 z4
          · obtain ⟨q1, g1, g2⟩ := rl.pot p z
            have h1 : p.1 ≠ a := fun w => rl.sep a hown ⟨p, z, .inl w.symm⟩
            have h2 : p.2 ≠ a := fun w => rl.sep a hown ⟨p, z, .inr w.symm⟩
            exact ⟨q1, by rw [upd_ne h1]; exact g1, by rw [upd_ne h2]; exact g2⟩
/-- what is shown, in the heap as it stands -/
theorem vw_ok {d : D} (rl : Rel K pa le G H σ ρ) (h : RR K pa G H σ ρ v r) (e : vw ρ r = some d) : Rp K H v d := by
  cases r with
  | im d' => cases (show some d' = some d from e); exact Rp.mono rl.ext _ _ h
  | pot => cases e
  | dead => cases e
  | tm o =>
    cases o with
    | d kvs => cases e
    | t kvs => cases e
    | l ds =>
      cases (show some (PyData.list ds) = some d from e)
      obtain ⟨a, ho, rfl, g, hh, ra, _⟩ := h
      cases ra with
      | l ra => exact .lst hh (RpAll.mono rl.ext _ _ ra)
  | sl i =>
    have h' : σ[i]? = some (some v) := h
    have e' : (match ρ[i]? with
      | some (.own _ (.l ds)) => some (PyData.list ds)
      | some (.im d) => some d
      | _ => none) = some d := e
    cases e1 : ρ[i]? with
    | none => rw [e1] at e'; cases e'
    | some s =>
      rw [e1] at e'
      obtain ⟨ov, z1, z2⟩ := rl.sl i s e1
      rw [h'] at z1; cases z1
      cases s with
      | no => cases e'
      | pot => cases e'
      | im d' =>
        cases e'
        obtain ⟨x, z3, z4⟩ := z2
        cases z3
        exact Rp.mono rl.ext _ _ z4
      | own l o =>
        cases o with
        | d kvs => cases e'
        | t kvs => cases e'
        | l ds =>
          cases e'
          obtain ⟨a, ho, z3, z4, z5, z6, _⟩ := z2
          cases z3
          cases z6 with
          | l z6 => exact .lst z5 (RpAll.mono rl.ext _ _ z6)
/-- .. of a list, its items known -/
theorem vw_lst {ds : List D} (rl : Rel K pa le G H σ ρ) (h : RR K pa G H σ ρ v r) (e : vw ρ r = some (.list ds)) : ∃ a vs, v = .ref a ∧ H a = some (.lst vs) ∧ RpAll K G vs ds := by
  cases r with
  | im d' =>
    cases (show some d' = some (PyData.list ds) from e)
    cases (show Rp K G v (.list ds) from h) with
    | lst h1 h2 => exact ⟨_, _, rfl, rl.ext _ _ h1, h2⟩
  | pot => cases e
  | dead => cases e
  | tm o =>
    cases o with
    | d kvs => cases e
    | t kvs => cases e
    | l ds' =>
      cases (show some (PyData.list ds') = some (.list ds) from e)
      obtain ⟨a, ho, rfl, g, hh, ra, _⟩ := h
      cases ra with
      | l ra => exact ⟨a, _, rfl, hh, ra⟩
  | sl i =>
    have h' : σ[i]? = some (some v) := h
    have e' : (match ρ[i]? with
      | some (.own _ (.l ds)) => some (PyData.list ds)
      | some (.im d) => some d
      | _ => none) = some (PyData.list ds) := e
    cases e1 : ρ[i]? with
    | none => rw [e1] at e'; cases e'
    | some s =>
      rw [e1] at e'
      obtain ⟨ov, z1, z2⟩ := rl.sl i s e1
      rw [h'] at z1; cases z1
      cases s with
      | no => cases e'
      | pot => cases e'
      | im d' =>
        cases e'
        obtain ⟨x, z3, z4⟩ := z2
        cases z3
        cases z4 with
        | lst h1 h2 => exact ⟨_, _, rfl, rl.ext _ _ h1, h2⟩
      | own l o =>
        cases o with
        | d kvs => cases e'
        | t kvs => cases e'
        | l ds' =>
          cases e'
          obtain ⟨a, ho, z3, z4, z5, z6, _⟩ := z2
          cases z3
          cases z6 with
          | l z6 => exact ⟨a, _, rfl, z5, z6⟩
/-- what is shown and is no list is known -/
theorem vw_im {d : D} (rl : Rel K pa le G H σ ρ) (h : RR K pa G H σ ρ v r) (e : vw ρ r = some d) (hd : ∀ ds, d ≠ .list ds) : Rp K G v d := by
  cases r with
  | im d' => cases (show some d' = some d from e); exact h
  | pot => cases e
  | dead => cases e
  | tm o =>
    cases o with
    | d kvs => cases e
    | t kvs => cases e
    | l ds => cases (show some (PyData.list ds) = some d from e); exact absurd rfl (hd ds)
  | sl i =>
    have h' : σ[i]? = some (some v) := h
    have e' : (match ρ[i]? with
      | some (.own _ (.l ds)) => some (PyData.list ds)
      | some (.im d) => some d
      | _ => none) = some d := e
    cases e1 : ρ[i]? with
    | none => rw [e1] at e'; cases e'
    | some s =>
      rw [e1] at e'
      obtain ⟨ov, z1, z2⟩ := rl.sl i s e1
      rw [h'] at z1; cases z1
      cases s with
      | no => cases e'
      | pot => cases e'
      | im d' =>
        cases e'
        obtain ⟨x, z3, z4⟩ := z2
        cases z3
        exact z4
      | own l o =>
        cases o with
        | d kvs => cases e'
        | t kvs => cases e'
        | l ds => cases e'; exact absurd rfl (hd ds)
end
end Tr

namespace Tr
open PySem L2

abbrev WE := Rn → (R → Rn → Prop) → (Xn → Prop) → Prop
abbrev WT := Rn → (Bool → Rn → Prop) → (Xn → Prop) → Prop
abbrev WA := Rn → (List R → Rn → Prop) → (Xn → Prop) → Prop
structure Po where
  nx : Rn → Prop
  rt : R → Rn → Prop
  bk : Rn → Prop
  ct : Rn → Prop
  ex : Xn → Prop
abbrev WS := Po → Rn → Prop

/-- from an entry to now -/
structure Nw (K : PySem.W.Frag) (pa : Pa) (le : Le) (G0 H0 : Hp) (σ0 : L2.St) (ρ0 : Rn) (G H : Hp) (σ : L2.St) (ρ : Rn) : Prop where
  a : Aft pa G0 H0 σ0 ρ0 G H
  o : Ow H0 σ0 ρ0 σ ρ
  r : Rel K pa le G H σ ρ
section
variable {K : PySem.W.Frag} {pa : Pa} {le : Le} {G H G0 H0 G1 H1 G2 H2 : Hp} {σ σ0 σ1 σ2 : L2.St} {ρ ρ0 ρ1 ρ2 : Rn} {v : V} {r : R}
theorem Nw.refl (r : Rel K pa le G H σ ρ) : Nw K pa le G H σ ρ G H σ ρ := ⟨Aft.refl, Ow.refl, r⟩
theorem Nw.trans (r0 : Rel K pa le G0 H0 σ0 ρ0) (a : Nw K pa le G0 H0 σ0 ρ0 G1 H1 σ1 ρ1) (b : Nw K pa le G1 H1 σ1 ρ1 G2 H2 σ2 ρ2) : Nw K pa le G0 H0 σ0 ρ0 G2 H2 σ2 ρ2 :=
  ⟨a.a.trans r0 a.r a.o b.a, Ow.trans a.a a.o b.o, b.r⟩
theorem Frs.trans (a : Nw K pa le G0 H0 σ0 ρ0 G1 H1 σ1 ρ1) (h : Frs H1 σ1 ρ1 v r) : Frs H0 σ0 ρ0 v r := by
  cases r with
  | tm ds =>
    intro x e
    rcases h x e with z | z
    · exact .inl (a.a.p x z)
    · exact (a.o x z).symm
  | im d => trivial
  | sl i => trivial
  | pot => trivial
  | dead => trivial
/-- the waiting result is pinned -/
theorem Nw.pin (r0 : Rel K pa le G0 H0 σ0 ρ0) (a : Nw K pa le G0 H0 σ0 ρ0 G H σ ρ) (h : RR K pa G H σ ρ v r) (fr : Frs H0 σ0 ρ0 v r) :
    ∃ G', Nw K pa le G0 H0 σ0 ρ0 G' H σ ρ ∧ Same G G' ∧ RR K pa G' H σ ρ v (Tr.pin r) := by
  obtain ⟨G', s1, A1, r1, h1⟩ := pin_ok r0 a.a a.r h fr
  exact ⟨G', ⟨A1, a.o, r1⟩, s1, h1⟩
theorem Nw.new_tup {p : Addr} {o0 : Obj} {vs : List V} {ds : List D} (hd : o0.dict = none) (rl : Rel K pa le G H σ ρ) (n : H p = none) (h : RpAll K G vs ds) :
    Nw K pa le G H σ ρ (upd G p (.frz o0 (.tup vs))) (upd H p (.frz o0 (.tup vs))) σ ρ ∧ Rp K (upd G p (.frz o0 (.tup vs))) (.ref p) (.tuple ds) := by
  have gn : G p = none := by
    cases e : G p with
    | none => rfl
    | some o => rw [rl.ext p o e] at n; cases n
  have s1 : Same G (upd G p (.frz o0 (.tup vs))) := fun b o e => by rw [upd_ne (ne_of_none e gn)]; exact e
  have nown : ∀ b, Own σ ρ b → b ≠ p := fun b hb z => by subst z; exact (rl.owT hb).1 n
  have npot : ∀ b, PotAt pa b → b ≠ p := fun b hb z => by subst z; exact (rl.potT hb).1 n
  refine ⟨⟨⟨s1, fun b o e _ _ => by rw [upd_ne (ne_of_none e n)]; exact e, fun b hb => ?_, fun b hb => ?_⟩, Ow.refl, ⟨fun b o e => ?_, rl.len, fun i s e => ?_, rl.dis, fun q e => ?_, rl.sep⟩⟩, (.tup (.inl ⟨o0, hd, upd_same⟩) (RpAll.mono s1 _ _ h) : Rp K _ (.ref p) (.tuple ds))⟩
  · by_cases hbp : b = p
    · rw [hbp]; exact .inr (.inl n)
    · rw [upd_ne hbp] at hb; exact .inl hb
  · by_cases hbp : b = p
    · rw [hbp]; exact n
    · rw [upd_ne hbp] at hb; exact hb
  · by_cases hbp : b = p
    · rw [hbp, upd_same] at e; cases e; rw [hbp, upd_same]
    · rw [upd_ne hbp] at e; rw [upd_ne hbp]; exact rl.ext b o e
  · obtain ⟨ov, e1, e2⟩ := rl.sl i s e
    refine ⟨ov, e1, ?_⟩
    cases s with
    | no => trivial
    | im d =>
      obtain ⟨x, e3, e4⟩ := e2
      exact ⟨x, e3, Rp.mono s1 d x e4⟩
    | own l ds =>
      obtain ⟨b, xs, e3, e4, e5, e6, e7⟩ := e2
      have hne : b ≠ p := nown b ⟨i, l, ds, e, by rw [e1, e3]⟩
      exact ⟨b, xs, e3, by rw [upd_ne hne]; exact e4, by rw [upd_ne hne]; exact e5, e6.mono s1, e7⟩
    | pot => exact e2
  · obtain ⟨q0, g1, g2⟩ := rl.pot q e
    have h1 : q.1 ≠ p := npot q.1 ⟨q, e, .inl rfl⟩
    have h2 : q.2 ≠ p := npot q.2 ⟨q, e, .inr rfl⟩
    exact ⟨q0.upd h1 h2, by rw [upd_ne h1]; exact g1, by rw [upd_ne h2]; exact g2⟩
theorem Nw.new_ob {p : Addr} {ho : HO} {o : Ob} (rl : Rel K pa le G H σ ρ) (n : H p = none) (h : ObR K G p ho o) :
    Nw K pa le G H σ ρ G (upd H p ho) σ ρ ∧ RR K pa G (upd H p ho) σ ρ (.ref p) (.tm o) ∧ Frs H σ ρ (.ref p) (.tm o) := by
  have gn : G p = none := by
    cases e : G p with
    | none => rfl
    | some o => rw [rl.ext p o e] at n; cases n
  have nown : ∀ b, Own σ ρ b → b ≠ p := fun b hb z => by subst z; exact (rl.owT hb).1 n
  have npot : ∀ b, PotAt pa b → b ≠ p := fun b hb z => by subst z; exact (rl.potT hb).1 n
  refine ⟨⟨⟨Same.refl G, fun b o e _ _ => by rw [upd_ne (ne_of_none e n)]; exact e, fun b hb => .inl hb, fun b hb => ?_⟩, Ow.refl, ⟨fun b o e => ?_, rl.len, fun i s e => ?_, rl.dis, fun q e => ?_, rl.sep⟩⟩,
    ⟨p, ho, rfl, gn, upd_same, h, fun z => nown p z rfl, fun z => npot p z rfl⟩, fun a e => by cases e; exact .inl n⟩
  · by_cases hbp : b = p
    · rw [hbp]; exact n
    · rw [upd_ne hbp] at hb; exact hb
  · rw [upd_ne (ne_of_none e gn)]; exact rl.ext b o e
  · obtain ⟨ov, e1, e2⟩ := rl.sl i s e
    refine ⟨ov, e1, ?_⟩
    cases s with
    | no => trivial
    | im d => exact e2
    | own l ds =>
      obtain ⟨b, xs, e3, e4, e5, e6, e7⟩ := e2
      have hne : b ≠ p := nown b ⟨i, l, ds, e, by rw [e1, e3]⟩
      exact ⟨b, xs, e3, e4, by rw [upd_ne hne]; exact e5, e6, e7⟩
    | pot => exact e2
  · obtain ⟨q0, g1, g2⟩ := rl.pot q e
    have h1 : q.1 ≠ p := npot q.1 ⟨q, e, .inl rfl⟩
    have h2 : q.2 ≠ p := npot q.2 ⟨q, e, .inr rfl⟩
    exact ⟨q0.upd h1 h2, g1, g2⟩
theorem Nw.new_lst {p : Addr} {vs : List V} {ds : List D} (rl : Rel K pa le G H σ ρ) (n : H p = none) (h : RpAll K G vs ds) :
    Nw K pa le G H σ ρ G (upd H p (.lst vs)) σ ρ ∧ RR K pa G (upd H p (.lst vs)) σ ρ (.ref p) (.tmp ds) ∧ Frs H σ ρ (.ref p) (.tmp ds) := Nw.new_ob rl n (.l h)
end

/-- an exception that leaves -/
def XR (K : PySem.W.Frag) (mg : Str → Option Value) (G : Hp) (x : Xn) (cls : Value) (d : Option Addr) : Prop :=
  ∃ C, mg x.cls = some (.ref C) ∧ cls = .ref C ∧ match d with
    | none => x.fs = []
    | some q => x.fs ≠ [] ∧ ∃ fs : List (Str × V), G q = some (.xd fs) ∧ fs.map (·.1) = x.fs.map (·.1) ∧ RpAll K G (fs.map (·.2)) (x.fs.map (·.2))

/-- the walk's constants -/
structure Ct where
  K : PySem.W.Frag
  mg : Str → Option Value
  pa : Pa
  le : Le
  E : XK

/-- the pot stands as it may stand -/
def PotK (pa : Pa) (G H : Hp) : Prop := ∀ p, pa = some p → PotOk H p ∧ G p.1 = none ∧ G p.2 = none
def LX (c : Ct) (G H : Hp) (σ : L2.St) (ρ : Rn) (Qx : Xn → Prop) : Prop := ∀ x cls d G' H', Aft c.pa G H σ ρ G' H' → Same G' H' → PotK c.pa G' H' → XR c.K c.mg G' x cls d → Qx x → c.E cls d H'
def LE (c : Ct) (w : WE) : TE := fun σ H Q => ∃ G ρ Qd Qx, Rel c.K c.pa c.le G H σ ρ ∧ w ρ Qd Qx ∧
  (∀ v r ρ' G' H', Nw c.K c.pa c.le G H σ ρ G' H' σ ρ' → RR c.K c.pa G' H' σ ρ' v r → Frs H σ ρ v r → Qd r ρ' → Q v H') ∧ LX c G H σ ρ Qx
def LT (c : Ct) (w : WT) : TT := fun σ H Q => ∃ G ρ Qd Qx, Rel c.K c.pa c.le G H σ ρ ∧ w ρ Qd Qx ∧
  (∀ b ρ' G' H', Nw c.K c.pa c.le G H σ ρ G' H' σ ρ' → Qd b ρ' → Q b H') ∧ LX c G H σ ρ Qx
/-- several results, all calm -/
def RRs (K : PySem.W.Frag) (pa : Pa) (G H : Hp) (σ : L2.St) (ρ : Rn) (vs : List V) (rs : List R) : Prop := Paired (fun v r => R.calm r ∧ RR K pa G H σ ρ v r) vs rs
def LA (c : Ct) (w : WA) : TA := fun σ H Q => ∃ G ρ Qd Qx, Rel c.K c.pa c.le G H σ ρ ∧ w ρ Qd Qx ∧
  (∀ vs rs ρ' G' H', Nw c.K c.pa c.le G H σ ρ G' H' σ ρ' → RRs c.K c.pa G' H' σ ρ' vs rs → Qd rs ρ' → Q vs H') ∧ LX c G H σ ρ Qx
def LS (c : Ct) (w : WS) : TS := fun D σ H => ∃ G ρ P, Rel c.K c.pa c.le G H σ ρ ∧ w P ρ ∧
  (∀ σ' ρ' G' H', Nw c.K c.pa c.le G H σ ρ G' H' σ' ρ' → P.nx ρ' → D.nx σ' H') ∧
  (∀ v r σ' ρ' G' H', Nw c.K c.pa c.le G H σ ρ G' H' σ' ρ' → RR c.K c.pa G' H' σ' ρ' v r → Frs H σ ρ v r → P.rt r ρ' → D.rt v H') ∧
  (∀ σ' ρ' G' H', Nw c.K c.pa c.le G H σ ρ G' H' σ' ρ' → P.bk ρ' → D.bk σ' H') ∧
  (∀ σ' ρ' G' H', Nw c.K c.pa c.le G H σ ρ G' H' σ' ρ' → P.ct ρ' → D.ct σ' H') ∧ LX c G H σ ρ P.ex
abbrev DE (X : Cx) (c : Ct) (e : Expr) (w : WE) : Prop := PE X e (LE c w)
abbrev DT (X : Cx) (c : Ct) (e : Expr) (w : WT) : Prop := PT X e (LT c w)
abbrev DA (X : Cx) (c : Ct) (es : List Expr) (w : WA) : Prop := PA X es (LA c w)
abbrev DS (X : Cx) (c : Ct) (st : Stmt) (w : WS) : Prop := PS X st (LS c w)
abbrev DSs (X : Cx) (c : Ct) (st : List Stmt) (w : WS) : Prop := PSs X st (LS c w)

section
variable {X : Cx} {c : Ct} {e a b : Expr} {es : List Expr}
theorem PEw {t t' : TE} (h : PE X e t) (i : ∀ σ H Q, t' σ H Q → t σ H Q) : PE X e t' := ⟨fun pins s σ H Q I hq => h.run pins s σ H Q I (i σ H Q hq)⟩
theorem PTw {t t' : TT} (h : PT X e t) (i : ∀ σ H Q, t' σ H Q → t σ H Q) : PT X e t' := ⟨fun pins s σ H Q I hq => h.run pins s σ H Q I (i σ H Q hq)⟩
theorem PWw {t t' : TT} (h : PW X e t) (i : ∀ σ H Q, t' σ H Q → t σ H Q) : PW X e t' := ⟨fun wh pins s σ H Q I hq => h.run wh pins s σ H Q I (i σ H Q hq)⟩
theorem PAw {t t' : TA} (h : PA X es t) (i : ∀ σ H Q, t' σ H Q → t σ H Q) : PA X es t' := ⟨fun pos pins s σ H Q I hq => h.run pos pins s σ H Q I (i σ H Q hq)⟩
theorem PSw {st : Stmt} {t t' : TS} (h : PS X st t) (i : ∀ D σ H, t' D σ H → t D σ H) : PS X st t' := ⟨fun pins s σ H D I hq => h.run pins s σ H D I (i D σ H hq)⟩
theorem PSsw {st : List Stmt} {t t' : TS} (h : PSs X st t) (i : ∀ D σ H, t' D σ H → t D σ H) : PSs X st t' := ⟨fun pins s σ H D I hq => h.run pins s σ H D I (i D σ H hq)⟩
theorem LX.trans {c : Ct} {G H G1 H1 : Hp} {σ σ1 : L2.St} {ρ ρ1 : Rn} {Qx : Xn → Prop} (r0 : Rel c.K c.pa c.le G H σ ρ) (n : Nw c.K c.pa c.le G H σ ρ G1 H1 σ1 ρ1) (h : LX c G H σ ρ Qx) : LX c G1 H1 σ1 ρ1 Qx :=
  fun x cls d G' H' A s pk xr q => h x cls d G' H' (n.a.trans r0 n.r n.o A) s pk xr q

/-! ### operations on results -/
abbrev F1 := R → Rn → (R → Rn → Prop) → Prop
abbrev F2 := R → R → Rn → (R → Rn → Prop) → Prop
abbrev FA := List R → Rn → (R → Rn → Prop) → Prop
/-- what an operation hands on -/
abbrev Got (c : Ct) (G H : Hp) (σ : L2.St) (ρ : Rn) (Qd : R → Rn → Prop) (Q : VK) : Prop := ∀ v r ρ' G' H', Nw c.K c.pa c.le G H σ ρ G' H' σ ρ' → RR c.K c.pa G' H' σ ρ' v r → Frs H σ ρ v r → Qd r ρ' → Q v H'
def Snd1 (c : Ct) (op : V → Hp → VK → Prop) (f : F1) : Prop := ∀ G H σ ρ v r Qd Q, Rel c.K c.pa c.le G H σ ρ → R.calm r → RR c.K c.pa G H σ ρ v r → f r ρ Qd → Got c G H σ ρ Qd Q → op v H Q
def Snd2 (c : Ct) (op : R2) (f : F2) : Prop := ∀ G H σ ρ v1 v2 r1 r2 Qd Q, Rel c.K c.pa c.le G H σ ρ → R.calm r1 → R.calm r2 → RR c.K c.pa G H σ ρ v1 r1 → RR c.K c.pa G H σ ρ v2 r2 → f r1 r2 ρ Qd → Got c G H σ ρ Qd Q → op v1 v2 H Q
def SndA (c : Ct) (op : List V → Hp → VK → Prop) (f : FA) : Prop := ∀ G H σ ρ vs rs Qd Q, Rel c.K c.pa c.le G H σ ρ → RRs c.K c.pa G H σ ρ vs rs → f rs ρ Qd → Got c G H σ ρ Qd Q → op vs H Q

def w1 (f : F1) (wa : WE) : WE := fun ρ Qd Qx => wa ρ (fun r ρ1 => f (pin r) ρ1 Qd) Qx
def w2 (f : F2) (wa wb : WE) : WE := fun ρ Qd Qx => wa ρ (fun r ρ1 => wb ρ1 (fun r' ρ2 => f (pin r) (pin r') ρ2 Qd) Qx) Qx
def wA (f : FA) (ws : WA) : WE := fun ρ Qd Qx => ws ρ (fun rs ρ1 => f rs ρ1 Qd) Qx

theorem le1 {op : V → Hp → VK → Prop} {f : F1} {wa : WE} (S : Snd1 c op f) {σ : L2.St} {H : Hp} {Q : VK} (h : LE c (w1 f wa) σ H Q) : LE c wa σ H fun x H1 => op x H1 Q := by
  obtain ⟨G, ρ, Qd, Qx, rl, hw, hQ, hX⟩ := h
  refine ⟨G, ρ, _, Qx, rl, hw, fun v r ρ1 G1 H1 n1 rr fr q => ?_, hX⟩
  obtain ⟨G2, n2, _, rr2⟩ := n1.pin rl rr fr
  exact S _ _ _ _ _ _ Qd Q n2.r (pin_calm r) rr2 q fun v' r' ρ' G' H' n3 rr3 fr3 q3 => hQ v' r' ρ' G' H' (n2.trans rl n3) rr3 (fr3.trans n2) q3
theorem le2 {op : R2} {f : F2} {wa wb : WE} (S : Snd2 c op f) {σ : L2.St} {H : Hp} {Q : VK} (h : LE c (w2 f wa wb) σ H Q) : LE c wa σ H fun x H1 => LE c wb σ H1 fun y H2 => op x y H2 Q := by
  obtain ⟨G, ρ, Qd, Qx, rl, hw, hQ, hX⟩ := h
  refine ⟨G, ρ, _, Qx, rl, hw, fun v r ρ1 G1 H1 n1 rr fr q => ?_, hX⟩
  obtain ⟨G2, n2, _, rr2⟩ := n1.pin rl rr fr
  refine ⟨G2, ρ1, _, Qx, n2.r, q, fun v2 r2 ρ3 G3 H3 n3 rr3 fr3 q3 => ?_, hX.trans rl n2⟩
  obtain ⟨G4, n4, _, rr4⟩ := n3.pin n2.r rr3 fr3
  have n5 := n2.trans rl n4
  exact S _ _ _ _ _ _ _ _ Qd Q n4.r (pin_calm r) (pin_calm r2) (calm_RR (pin_calm r) n4.a.g rr2) rr4 q3 fun v' r' ρ' G' H' n6 rr6 fr6 q6 => hQ v' r' ρ' G' H' (n5.trans rl n6) rr6 (fr6.trans n5) q6
theorem leA {op : List V → Hp → VK → Prop} {f : FA} {ws : WA} (S : SndA c op f) {σ : L2.St} {H : Hp} {Q : VK} (h : LE c (wA f ws) σ H Q) : LA c ws σ H fun xs H1 => op xs H1 Q := by
  obtain ⟨G, ρ, Qd, Qx, rl, hw, hQ, hX⟩ := h
  exact ⟨G, ρ, _, Qx, rl, hw, fun vs rs ρ1 G1 H1 n1 rr q => S _ _ _ _ _ _ Qd Q n1.r rr q fun v' r' ρ' G' H' n3 rr3 fr3 q3 => hQ v' r' ρ' G' H' (n1.trans rl n3) rr3 (fr3.trans n1) q3, hX⟩

/-! ### names, constants -/
def wV (i : Nat) : WE := fun ρ Qd _ => match ρ[i]? with
  | some (.im d) => Qd (.im d) ρ
  | some (.own _ _) => Qd (.sl i) ρ
  | some .pot => Qd .pot ρ
  | _ => False
theorem d_var {i : Nat} (h : PE X e (tVar i)) : DE X c e (wV i) := PEw h fun σ H Q ⟨G, ρ, Qd, Qx, rl, hw, hQ, hX⟩ => by
  have hw' : (match ρ[i]? with
    | some (.im d) => Qd (.im d) ρ
    | some (.own _ _) => Qd (.sl i) ρ
    | some .pot => Qd .pot ρ
    | _ => False) := hw
  cases e1 : ρ[i]? with
  | none => rw [e1] at hw'; exact hw'.elim
  | some s =>
    rw [e1] at hw'
    obtain ⟨ov, z1, z2⟩ := rl.sl i s e1
    cases s with
    | no => exact hw'.elim
    | im d =>
      obtain ⟨x, rfl, z4⟩ := z2
      exact ⟨x, z1, hQ x (.im d) ρ G H (Nw.refl rl) z4 trivial hw'⟩
    | own l ds =>
      obtain ⟨x, vs, rfl, z4⟩ := z2
      exact ⟨_, z1, hQ _ (.sl i) ρ G H (Nw.refl rl) z1 trivial hw'⟩
    | pot =>
      obtain ⟨p, z3, rfl⟩ := z2
      exact ⟨_, z1, hQ _ .pot ρ G H (Nw.refl rl) ⟨p, z3, rfl⟩ trivial hw'⟩
/-- flat values -/
theorem flatD_rp {K : PySem.W.Frag} {G : Hp} {v : V} {d : D} (h : flatD v = some d) : Rp K G v d := by
  cases v <;> first | cases h | skip
  · exact .non
  · exact .bl _
  · exact .int _
  · exact .str _
def wC (d : D) : WE := fun ρ Qd _ => Qd (.im d) ρ
theorem d_c {v : V} {d : D} (h : PE X e (tC v)) (hd : flatD v = some d) : DE X c e (wC d) := PEw h fun σ H Q ⟨G, ρ, Qd, Qx, rl, hw, hQ, hX⟩ => hQ v (.im d) ρ G H (Nw.refl rl) (flatD_rp hd) trivial hw
/-- a tuple that the module holds -/
theorem d_glob {v : V} {d : D} (h : PE X e (tC v)) (hd : ∀ G, Rp c.K G v d) : DE X c e (wC d) := PEw h fun σ H Q ⟨G, ρ, Qd, Qx, rl, hw, hQ, hX⟩ => hQ v (.im d) ρ G H (Nw.refl rl) (hd G) trivial hw

/-! ### operators -/
theorem d_op {op : Operator} {r : R2} {f : F2} {wa wb : WE} {pos : Pos} (ho : OpR X (binaryOp op) r) (S : Snd2 c r f) (ha : DE X c a wa) (hb : DE X c b wb) : DE X c (.BinOp a op b pos) (w2 f wa wb) :=
  PEw (pe_op ho ha hb) fun _ _ _ h => le2 S h
theorem d_un {op : UnaryOp} {r : V → Hp → VK → Prop} {f : F1} {wa : WE} {pos : Pos} (ho : UnR X (unaryOp op) r) (S : Snd1 c r f) (ha : DE X c a wa) : DE X c (.UnaryOp op a pos) (w1 f wa) :=
  PEw (pe_un ho ha) fun _ _ _ h => le1 S h
theorem d_cmp {op : CmpOp} {r : R2} {f : F2} {wa wb : WE} {pos : Pos} (ho : OpR X (compareOp op) r) (S : Snd2 c r f) (ha : DE X c a wa) (hb : DE X c b wb) (hm : behindInMarks op b = false) : DE X c (.Compare a [op] [b] pos) (w2 f wa wb) :=
  PEw (pe_cmpR ho ha hb hm) fun _ _ _ h => le2 S h
theorem d_ix {r : R2} {f : F2} {wa wb : WE} {pos : Pos} (hi : IxR X r) (S : Snd2 c r f) (ha : DE X c a wa) (hb : DE X c b wb) (hs : PlainIx b) : DE X c (.Subscript a b pos) (w2 f wa wb) :=
  PEw (pe_ix hi ha hb hs) fun _ _ _ h => le2 S h

/-! ### argument lists, displays -/
def wN : WA := fun ρ Qd _ => Qd [] ρ
def wCons (wa : WE) (ws : WA) : WA := fun ρ Qd Qx => wa ρ (fun r ρ1 => ws ρ1 (fun rs ρ2 => Qd (pin r :: rs) ρ2) Qx) Qx
theorem Paired.imp' {α β : Type} {F F' : α → β → Prop} (h : ∀ a b, F a b → F' a b) : ∀ {l : List α} {m : List β}, Paired F l m → Paired F' l m
  | _, _, .nil => .nil
  | _, _, .cons x t => .cons (h _ _ x) (Paired.imp' h t)
theorem RRs.mono {K : PySem.W.Frag} {pa : Pa} {G H G1 H1 : Hp} {σ : L2.St} {ρ ρ1 : Rn} {vs : List V} {rs : List R} (s : Same G G1) (h : RRs K pa G H σ ρ vs rs) : RRs K pa G1 H1 σ ρ1 vs rs :=
  Paired.imp' (fun _ _ z => ⟨z.1, calm_RR z.1 s z.2⟩) h
theorem d_nil : DA X c [] wN := PAw pa_nil fun σ H Q ⟨G, ρ, Qd, Qx, rl, hw, hQ, hX⟩ => hQ [] [] ρ G H (Nw.refl rl) .nil hw
theorem d_cons {wa : WE} {ws : WA} (ha : DE X c e wa) (hs : DA X c es ws) (hst : starEach (e :: es) X.env = (false, eval e X.env) :: starEach es X.env := by rfl) : DA X c (e :: es) (wCons wa ws) := by
  refine PAw (pa_cons ha hs hst) fun σ H Q ⟨G, ρ, Qd, Qx, rl, hw, hQ, hX⟩ => ?_
  refine ⟨G, ρ, _, Qx, rl, hw, fun v r ρ1 G1 H1 n1 rr fr q => ?_, hX⟩
  obtain ⟨G2, n2, _, rr2⟩ := n1.pin rl rr fr
  refine ⟨G2, ρ1, _, Qx, n2.r, q, fun vs rs ρ3 G3 H3 n3 rr3 q3 => ?_, hX.trans rl n2⟩
  exact hQ (v :: vs) (pin r :: rs) ρ3 G3 H3 (n2.trans rl n3) (.cons ⟨pin_calm r, calm_RR (pin_calm r) n3.a.g rr2⟩ rr3) q3
/-- results shut, one behind another -/
def fzs : List R → Rn → (List D → Rn → Prop) → Prop
  | [], ρ, Q => Q [] ρ
  | r :: rs, ρ, Q => fz r ρ fun d ρ1 => fzs rs ρ1 fun ds ρ2 => Q (d :: ds) ρ2
theorem fzs_ok {c : Ct} {σ : L2.St} {H : Hp} : ∀ {rs : List R} {vs : List V} {G : Hp} {ρ : Rn} {Q : List D → Rn → Prop}, Rel c.K c.pa c.le G H σ ρ → RRs c.K c.pa G H σ ρ vs rs → fzs rs ρ Q →
    ∃ G' ds ρ', Nw c.K c.pa c.le G H σ ρ G' H σ ρ' ∧ RpAll c.K G' vs ds ∧ Q ds ρ'
  | [], _, G, ρ, Q, rl, h, q => by
    cases h
    exact ⟨G, [], ρ, Nw.refl rl, .nil, q⟩
  | r :: rs, _, G, ρ, Q, rl, h, q => by
    cases h with
    | cons h1 h2 =>
      have fr : ∀ x, Frs H σ ρ x r := fun x => by
        cases r with
        | tm ds => exact h1.1.elim
        | im d => trivial
        | sl i => trivial
        | pot => trivial
        | dead => trivial
      obtain ⟨G1, d, ρ1, s1, A1, O1, _, r1, hd, q1⟩ := fz_ok rl (Aft.refl) Ow.refl rl h1.2 (fr _) q
      have n1 : Nw c.K c.pa c.le G H σ ρ G1 H σ ρ1 := ⟨A1, O1, r1⟩
      obtain ⟨G2, ds, ρ2, n2, h3, q2⟩ := fzs_ok r1 (RRs.mono s1 h2) q1
      exact ⟨G2, d :: ds, ρ2, n1.trans rl n2, .cons (Rp.mono n2.a.g _ _ hd) h3, q2⟩
theorem fzs_len : ∀ {rs : List R} {ρ : Rn} {Q : List D → Rn → Prop}, fzs rs ρ Q → fzs rs ρ fun ds ρ' => ds.length = rs.length ∧ Q ds ρ'
  | [], _, _, h => ⟨rfl, h⟩
  | r :: rs, ρ, Q, h => by
    have key : ∀ {A B : D → Rn → Prop}, (∀ d ρ', A d ρ' → B d ρ') → fz r ρ A → fz r ρ B := fun {A B} i z => by
      cases r with
      | im d => exact i _ _ z
      | tm o =>
        cases o with
        | l ds => exact i _ _ z
        | d kvs => exact z
        | t kvs => exact z
      | pot => exact z
      | dead => exact z
      | sl j =>
        have z' : (match ρ[j]? with
          | some (.own _ (.l ds)) => A (.list ds) (ρ.set j (.im (.list ds)))
          | some (.im d) => A d ρ
          | _ => False) := z
        show (match ρ[j]? with
          | some (.own _ (.l ds)) => B (.list ds) (ρ.set j (.im (.list ds)))
          | some (.im d) => B d ρ
          | _ => False)
        cases e1 : ρ[j]? with
        | none => rw [e1] at z'; exact z'
        | some s =>
          rw [e1] at z'
          cases s with
          | no => exact z'
          | pot => exact z'
          | im d => exact i _ _ z'
          | own l o =>
            cases o with
            | l ds => exact i _ _ z'
            | d kvs => exact z'
            | t kvs => exact z'
    refine key (fun d ρ1 q => ?_) h
    have q' := fzs_len (Q := fun ds ρ2 => Q (d :: ds) ρ2) q
    have go : ∀ {rs : List R} {ρ : Rn} {A B : List D → Rn → Prop}, (∀ d ρ', A d ρ' → B d ρ') → fzs rs ρ A → fzs rs ρ B := by
      intro rs
      induction rs with
      | nil => intro ρ A B i z; exact i _ _ z
      | cons r' rs ih =>
        intro ρ A B i z
        show fz r' ρ _
        have key2 : ∀ {A B : D → Rn → Prop}, (∀ d ρ', A d ρ' → B d ρ') → fz r' ρ A → fz r' ρ B := fun {A B} i z => by
          cases r' with
          | im d => exact i _ _ z
          | tm o =>
            cases o with
            | l ds => exact i _ _ z
            | d kvs => exact z
            | t kvs => exact z
          | pot => exact z
          | dead => exact z
          | sl j =>
            have z' : (match ρ[j]? with
              | some (.own _ (.l ds)) => A (.list ds) (ρ.set j (.im (.list ds)))
              | some (.im d) => A d ρ
              | _ => False) := z
            show (match ρ[j]? with
              | some (.own _ (.l ds)) => B (.list ds) (ρ.set j (.im (.list ds)))
              | some (.im d) => B d ρ
              | _ => False)
            cases e1 : ρ[j]? with
            | none => rw [e1] at z'; exact z'
            | some s =>
              rw [e1] at z'
              cases s with
              | no => exact z'
              | pot => exact z'
              | im d => exact i _ _ z'
              | own l o =>
                cases o with
                | l ds => exact i _ _ z'
                | d kvs => exact z'
                | t kvs => exact z'
        exact key2 (fun d ρ' q => ih (fun ds ρ2 q2 => i _ _ q2) q) z
    exact go (fun ds ρ2 q2 => ⟨by rw [List.length_cons, List.length_cons, q2.1], q2.2⟩) q'
def fTup : FA := fun rs ρ Qd => rs.length ≤ 100000 ∧ fzs rs ρ fun ds ρ1 => Qd (.im (.tuple ds)) ρ1
def fLst : FA := fun rs ρ Qd => rs.length ≤ 100000 ∧ fzs rs ρ fun ds ρ1 => Qd (.tmp ds) ρ1
theorem szl {n : Nat} (h : n ≤ 100000) : n ≤ sizeLine := Nat.le_trans h (by decide)
theorem Paired.len' {α β : Type} {F : α → β → Prop} : ∀ {l : List α} {m : List β}, Paired F l m → l.length = m.length
  | _, _, .nil => rfl
  | _, _, .cons _ t => by rw [List.length_cons, List.length_cons, Paired.len' t]
/-- what a new tuple asks: its object has no dict -/
def rNewT (xs : List V) (H : Hp) (Q : VK) : Prop := ∀ (p : Addr) (o : Obj), o.dict = none → H p = none → Q (.ref p) (upd H p (.frz o (.tup xs)))
theorem Inv.newT {X : Cx} {pins : List (Addr × Obj)} {σ : L2.St} {H : Hp} {s : Shared} {xs : List V} {us : List Value} {Q : VK} {tk : Nat} (I : Inv X pins σ H s) (r : Vals xs us) (z : xs.length ≤ sizeLine) (q : rNewT xs H Q) :
    EP X pins σ Q (.ref s.heap.objs.size) { s with heap := s.heap.push { cls := .type "tuple", data := .seq us.toArray }, toks := tk } := by
  have hf : H s.heap.objs.size = none := I.hok.fresh (Nat.le_refl _)
  refine ⟨.ref s.heap.objs.size, upd H s.heap.objs.size (.frz { cls := .type "tuple", data := .seq us.toArray } (.tup xs)), I.laid (t' := tk) (fun b u e => Heap.get?_push_of_some _ e) (Nat.le_refl _) ?_, rfl, q _ _ rfl hf⟩
  have e := Heap.get?_push_size (h := s.heap) (o := { cls := .type "tuple", data := .seq us.toArray }) rfl
  exact ⟨e, z, us, r, _, e, rfl, _, rfl⟩
theorem pe_tupF {t : TA} {k : Nat} {pos : Pos} (h : PA X es t) : PE X (.Tuple es k pos) (fun σ H Q => t σ H fun xs H1 => xs.length ≤ sizeLine ∧ rNewT xs H1 Q) :=
  ⟨fun pins s σ H Q I hq => wpAny_Tuple_spliced (thn (h.run pos pins s σ H _ I hq) fun us s1 ⟨xs, H1, I1, r, z, q⟩ => ⟨by rw [← r.length]; exact z, Inv.newT (tk := s1.toks) I1 r z q⟩)⟩
theorem d_tup {ws : WA} {k : Nat} {pos : Pos} (h : DA X c es ws) : DE X c (.Tuple es k pos) (wA fTup ws) := by
  refine PEw (pe_tupF h) fun σ H Q hq => ?_
  refine leA (op := fun xs H1 Q => xs.length ≤ sizeLine ∧ rNewT xs H1 Q) (fun G H σ ρ vs rs Qd Q rl rr ⟨hl, q⟩ hg => ?_) hq
  obtain ⟨G1, ds, ρ1, n1, h1, q1⟩ := fzs_ok rl rr q
  refine ⟨by rw [Paired.len' rr]; exact szl hl, fun p o0 ho hp => ?_⟩
  obtain ⟨n2, h2⟩ := Nw.new_tup ho n1.r hp h1
  exact hg _ (.im (.tuple ds)) ρ1 _ _ (n1.trans rl n2) h2 trivial q1
theorem d_lst {ws : WA} {pos : Pos} (h : DA X c es ws) : DE X c (.List es pos) (wA fLst ws) := by
  refine PEw (pe_lst h) fun σ H Q hq => ?_
  refine leA (op := fun xs H1 Q => xs.length ≤ sizeLine ∧ ∀ p, H1 p = none → Q (.ref p) (upd H1 p (.lst xs))) (fun G H σ ρ vs rs Qd Q rl rr ⟨hl, q⟩ hg => ?_) hq
  obtain ⟨G1, ds, ρ1, n1, h1, q1⟩ := fzs_ok rl rr q
  refine ⟨by rw [Paired.len' rr]; exact szl hl, fun p hp => ?_⟩
  obtain ⟨n2, h2, h3⟩ := Nw.new_lst n1.r hp h1
  exact hg _ (.tmp ds) ρ1 _ _ (n1.trans rl n2) h2 (h3.trans n1) q1

/-! ### calls of what is built in -/
theorem d_callB {x : Str} {id : String} {p pos : Pos} {r : List V → Hp → VK → Prop} {f : FA} {ws : WA} (hc : CallR X (.builtin id) r) (S : SndA c r f) (hg : Gl X x) (hm : X.mg x = none) (hv : bootBuiltins x = some (.builtin id)) (ha : DA X c (e :: es) ws) (hn : x ≠ "__name__" := by decide)
    (hdb : (x == ("__debug__" : Str)) = false := by decide) (he : starEach (e :: es) X.env = (false, eval e X.env) :: starEach es X.env := by rfl) (hpl : (backTo pos (starEach es X.env)).any (·.1) = false := by rfl) : DE X c (.Call (.Name x p) (e :: es) [] pos) (wA f ws) :=
  PEw (pe_callB hc hg hm hv ha hn hdb he hpl) fun _ _ _ h => leA S h
theorem d_callTy {x : Str} {T : String} {p pos : Pos} {r : List V → Hp → VK → Prop} {f : FA} {ws : WA} (hc : CallR X (.type T) r) (S : SndA c r f) (hg : Gl X x) (hm : X.mg x = none) (hv : bootBuiltins x = some (.type T)) (ha : DA X c (e :: es) ws) (hn : x ≠ "__name__" := by decide)
    (hdb : (x == ("__debug__" : Str)) = false := by decide) (he : starEach (e :: es) X.env = (false, eval e X.env) :: starEach es X.env := by rfl) (hpl : (backTo pos (starEach es X.env)).any (·.1) = false := by rfl) : DE X c (.Call (.Name x p) (e :: es) [] pos) (wA f ws) :=
  PEw (pe_callTy hc hg hm hv ha hn hdb he hpl) fun _ _ _ h => leA S h

/-! ### tests -/
/-- one of two, by a truth value -/
structure IfW (b : Bool) (A B : Prop) : Prop where
  t : b = true → A
  f : b = false → B
def wT (wa : WE) : WT := fun ρ Qd Qx => wa ρ (fun r ρ1 => match r with
  | .im (.bool b) => Qd b ρ1
  | _ => False) Qx
theorem lt_of {wa : WE} {σ : L2.St} {H : Hp} {Q : Bool → Hp → Prop} (h : LT c (wT wa) σ H Q) : LE c wa σ H fun x H1 => ∃ k, x = .bl k ∧ Q k H1 := by
  obtain ⟨G, ρ, Qd, Qx, rl, hw, hQ, hX⟩ := h
  refine ⟨G, ρ, _, Qx, rl, hw, fun v r ρ1 G1 H1 n1 rr fr q => ?_, hX⟩
  cases r with
  | im d =>
    cases d with
    | bool b =>
      cases (show Rp c.K G1 v (.bool b) from rr)
      exact ⟨b, rfl, hQ b ρ1 G1 H1 n1 q⟩
    | _ => exact q.elim
  | _ => exact q.elim
theorem d_test {wa : WE} (h : DE X c e wa) (he : ∀ whole, isTrue e X.env whole = (do let v ← whole; standAt e.pos; holding [v] (truthy v)) := by intro _; rfl) : DT X c e (wT wa) :=
  PTw (pt_val h he) fun _ _ _ h => lt_of h
theorem d_tcmp {op : CmpOp} {r : R2} {f : F2} {wa wb : WE} {pos : Pos} (ho : OpR X (compareOp op) r) (S : Snd2 c r f) (ha : DE X c a wa) (hb : DE X c b wb) (hm : behindInMarks op b = false) : DT X c (.Compare a [op] [b] pos) (wT (w2 f wa wb)) :=
  PTw (pt_cmpR ho ha hb hm) fun σ H Q h => by
    have h' := lt_of h
    exact le2 S h'
def wAnd (t u : WT) : WT := fun ρ Qd Qx => t ρ (fun b ρ1 => IfW b (u ρ1 Qd Qx) (Qd false ρ1)) Qx
def wOr (t u : WT) : WT := fun ρ Qd Qx => t ρ (fun b ρ1 => IfW b (Qd true ρ1) (u ρ1 Qd Qx)) Qx
def wNot (t : WT) : WT := fun ρ Qd Qx => t ρ (fun b ρ1 => Qd (!b) ρ1) Qx
abbrev DW (X : Cx) (c : Ct) (e : Expr) (w : WT) : Prop := PW X e (LT c w)
theorem d_and1 {t : WT} {pos : Pos} (h : DT X c a t) : DW X c (.BoolOp .And [a] pos) t := pw_and1 h
theorem d_or1 {t : WT} {pos : Pos} (h : DT X c a t) : DW X c (.BoolOp .Or [a] pos) t := pw_or1 h
theorem d_and {t u : WT} {rest : List Expr} {pos : Pos} (h : DT X c a t) (h2 : DW X c (.BoolOp .And (b :: rest) pos) u) : DW X c (.BoolOp .And (a :: b :: rest) pos) (wAnd t u) :=
  PWw (pw_and h h2) fun σ H Q ⟨G, ρ, Qd, Qx, rl, hw, hQ, hX⟩ => ⟨G, ρ, _, Qx, rl, hw, fun k ρ1 G1 H1 n1 q => by
    cases k with
    | true => have q := q.t rfl; exact ⟨G1, ρ1, Qd, Qx, n1.r, q, fun k ρ' G' H' n2 q2 => hQ k ρ' G' H' (n1.trans rl n2) q2, hX.trans rl n1⟩
    | false => have q := q.f rfl; exact hQ false ρ1 G1 H1 n1 q, hX⟩
theorem d_or {t u : WT} {rest : List Expr} {pos : Pos} (h : DT X c a t) (h2 : DW X c (.BoolOp .Or (b :: rest) pos) u) : DW X c (.BoolOp .Or (a :: b :: rest) pos) (wOr t u) :=
  PWw (pw_or h h2) fun σ H Q ⟨G, ρ, Qd, Qx, rl, hw, hQ, hX⟩ => ⟨G, ρ, _, Qx, rl, hw, fun k ρ1 G1 H1 n1 q => by
    cases k with
    | true => have q := q.t rfl; exact hQ true ρ1 G1 H1 n1 q
    | false => have q := q.f rfl; exact ⟨G1, ρ1, Qd, Qx, n1.r, q, fun k ρ' G' H' n2 q2 => hQ k ρ' G' H' (n1.trans rl n2) q2, hX.trans rl n1⟩, hX⟩
theorem d_w {t : WT} (h : DW X c e t) : DT X c e t := h.pt
theorem d_not {t : WT} {pos : Pos} (h : DT X c a t) : DT X c (.UnaryOp .Not a pos) (wNot t) :=
  PTw (pt_not h) fun σ H Q ⟨G, ρ, Qd, Qx, rl, hw, hQ, hX⟩ => ⟨G, ρ, _, Qx, rl, hw, fun k ρ1 G1 H1 n1 q => hQ _ ρ1 G1 H1 n1 q, hX⟩
/-- and, or, not as values of bools -/
def wAndV (wa wb : WE) : WE := fun ρ Qd Qx => wT wa ρ (fun b ρ1 => IfW b (wb ρ1 Qd Qx) (Qd (.im (.bool false)) ρ1)) Qx
def wOrV (wa wb : WE) : WE := fun ρ Qd Qx => wT wa ρ (fun b ρ1 => IfW b (Qd (.im (.bool true)) ρ1) (wb ρ1 Qd Qx)) Qx
def wNotV (wa : WE) : WE := fun ρ Qd Qx => wT wa ρ (fun b ρ1 => Qd (.im (.bool !b)) ρ1) Qx
theorem d_oneV {op : BoolOp} {wa : WE} {pos : Pos} (h : DE X c a wa) : DE X c (.BoolOp op [a] pos) wa := pe_one h
theorem d_andV {wa wb : WE} {rest : List Expr} {pos : Pos} (h : DE X c a wa) (h2 : DE X c (.BoolOp .And (b :: rest) pos) wb) : DE X c (.BoolOp .And (a :: b :: rest) pos) (wAndV wa wb) :=
  PEw (pe_and h h2) fun σ H Q ⟨G, ρ, Qd, Qx, rl, hw, hQ, hX⟩ => lt_of (Q := fun k H1 => if k = true then LE c wb σ H1 Q else Q (.bl false) H1) ⟨G, ρ, _, Qx, rl, hw, fun k ρ1 G1 H1 n1 q => by
    cases k with
    | true => have q := q.t rfl; exact ⟨G1, ρ1, Qd, Qx, n1.r, q, fun v r ρ' G' H' n2 rr fr q2 => hQ v r ρ' G' H' (n1.trans rl n2) rr (fr.trans n1) q2, hX.trans rl n1⟩
    | false => have q := q.f rfl; exact hQ (.bl false) (.im (.bool false)) ρ1 G1 H1 n1 (.bl false) trivial q, hX⟩
theorem d_orV {wa wb : WE} {rest : List Expr} {pos : Pos} (h : DE X c a wa) (h2 : DE X c (.BoolOp .Or (b :: rest) pos) wb) : DE X c (.BoolOp .Or (a :: b :: rest) pos) (wOrV wa wb) :=
  PEw (pe_or h h2) fun σ H Q ⟨G, ρ, Qd, Qx, rl, hw, hQ, hX⟩ => lt_of (Q := fun k H1 => if k = true then Q (.bl true) H1 else LE c wb σ H1 Q) ⟨G, ρ, _, Qx, rl, hw, fun k ρ1 G1 H1 n1 q => by
    cases k with
    | true => have q := q.t rfl; exact hQ (.bl true) (.im (.bool true)) ρ1 G1 H1 n1 (.bl true) trivial q
    | false => have q := q.f rfl; exact ⟨G1, ρ1, Qd, Qx, n1.r, q, fun v r ρ' G' H' n2 rr fr q2 => hQ v r ρ' G' H' (n1.trans rl n2) rr (fr.trans n1) q2, hX.trans rl n1⟩, hX⟩
theorem d_notV {wa : WE} {pos : Pos} (h : DE X c a wa) : DE X c (.UnaryOp .Not a pos) (wNotV wa) :=
  PEw (pe_not h) fun σ H Q ⟨G, ρ, Qd, Qx, rl, hw, hQ, hX⟩ => lt_of (Q := fun k H1 => Q (.bl (!k)) H1) ⟨G, ρ, _, Qx, rl, hw, fun k ρ1 G1 H1 n1 q => hQ (.bl (!k)) (.im (.bool !k)) ρ1 G1 H1 n1 (.bl _) trivial q, hX⟩
def wIf (t : WT) (wa wb : WE) : WE := fun ρ Qd Qx => t ρ (fun b ρ1 => IfW b (wa ρ1 Qd Qx) (wb ρ1 Qd Qx)) Qx
theorem d_ifx {t : WT} {wa wb : WE} {cnd : Expr} {pos : Pos} (ht : DT X c cnd t) (ha : DE X c a wa) (hb : DE X c b wb) : DE X c (.IfExp cnd a b pos) (wIf t wa wb) :=
  PEw (pe_ifExp ht ha hb) fun σ H Q ⟨G, ρ, Qd, Qx, rl, hw, hQ, hX⟩ => ⟨G, ρ, _, Qx, rl, hw, fun k ρ1 G1 H1 n1 q => by
    cases k with
    | true => have q := q.t rfl; exact ⟨G1, ρ1, Qd, Qx, n1.r, q, fun v r ρ' G' H' n2 rr fr q2 => hQ v r ρ' G' H' (n1.trans rl n2) rr (fr.trans n1) q2, hX.trans rl n1⟩
    | false => have q := q.f rfl; exact ⟨G1, ρ1, Qd, Qx, n1.r, q, fun v r ρ' G' H' n2 rr fr q2 => hQ v r ρ' G' H' (n1.trans rl n2) rr (fr.trans n1) q2, hX.trans rl n1⟩, hX⟩
end
end Tr

namespace Tr
open PySem L2

section
variable {K : PySem.W.Frag} {pa : Pa} {le : Le} {G H G0 H0 G1 H1 G2 H2 : Hp} {σ σ0 σ1 σ2 : L2.St} {ρ ρ0 ρ1 ρ2 : Rn} {v : V} {r : R}

/-- an owned list changes -/
theorem Nw.mutO {i : Nat} {l : Bool} {ds ds' : Ob} {a : Addr} {ho' : HO} (rl : Rel K pa le G H σ ρ) (hr : ρ[i]? = some (.own l ds)) (hs : σ[i]? = some (some (.ref a))) (h : ObR K G a ho' ds') :
    Nw K pa le G H σ ρ G (upd H a ho') σ (ρ.set i (.own l ds')) := by
  have ho : Own σ ρ a := ⟨i, l, ds, hr, hs⟩
  have hil : i < ρ.length := (List.getElem?_eq_some_iff.mp hr).1
  have gn : G a = none := (rl.owT ho).2
  have npot : ∀ b, PotAt pa b → b ≠ a := fun b hb z => rl.sep a ho (by rw [← z]; exact hb)
  have back : ∀ b, Own σ (ρ.set i (.own l ds')) b → Own σ ρ b := fun b ⟨j, l', es, e1, e2⟩ => by
    by_cases hij : i = j
    · subst hij
      rw [hs] at e2; cases e2
      exact ho
    · rw [List.getElem?_set_ne hij] at e1
      exact ⟨j, l', es, e1, e2⟩
  have look : ∀ j l' es, (ρ.set i (.own l ds'))[j]? = some (Sl.own l' es) → ∃ es', ρ[j]? = some (Sl.own l' es') := fun j l' es e => by
    by_cases hij : i = j
    · subst hij
      rw [List.getElem?_set_self hil] at e; cases e
      exact ⟨ds, hr⟩
    · rw [List.getElem?_set_ne hij] at e
      exact ⟨es, e⟩
  refine ⟨⟨Same.refl G, fun b o e n1 n2 => by rw [upd_ne (fun z => n1 (by rw [z]; exact ho))]; exact e, fun b hb => .inl hb, fun b hb => ?_⟩, fun b hb => .inl (back b hb), ⟨fun b o e => ?_, by rw [List.length_set]; exact rl.len, fun j s e => ?_, fun j k l1 l2 d1 d2 b z1 z2 z3 z4 => ?_, fun p e => ?_, fun b hb => rl.sep b (back b hb)⟩⟩
  · by_cases hba : b = a
    · rw [hba, upd_same] at hb; cases hb
    · rw [upd_ne hba] at hb; exact hb
  · rw [upd_ne (ne_of_none e gn)]; exact rl.ext b o e
  · by_cases hij : i = j
    · subst hij
      rw [List.getElem?_set_self hil] at e; cases e
      obtain ⟨ov, z1, b, ws, z2, z3, z4, z5, z6⟩ := rl.sl i _ hr
      rw [hs] at z1; cases z1; cases z2
      exact ⟨_, hs, _, ho', rfl, gn, upd_same, h, z6⟩
    · rw [List.getElem?_set_ne hij] at e
      obtain ⟨ov, z1, z2⟩ := rl.sl j s e
      refine ⟨ov, z1, ?_⟩
      cases s with
      | no => trivial
      | im d => exact z2
      | own l' es =>
        obtain ⟨b, ws, z3, z4, z5, z6, z7⟩ := z2
        have hne : b ≠ a := fun z => hij (rl.dis i j l l' ds es a hr e hs (by rw [z1, z3, z]))
        exact ⟨b, ws, z3, z4, by rw [upd_ne hne]; exact z5, z6, z7⟩
      | pot => exact z2
  · obtain ⟨_, z1'⟩ := look j l1 d1 z1
    obtain ⟨_, z2'⟩ := look k l2 d2 z2
    exact rl.dis j k l1 l2 _ _ b z1' z2' z3 z4
  · obtain ⟨q0, g1, g2⟩ := rl.pot p e
    have h1 : p.1 ≠ a := npot p.1 ⟨p, e, .inl rfl⟩
    have h2 : p.2 ≠ a := npot p.2 ⟨p, e, .inr rfl⟩
    exact ⟨q0.upd h1 h2, g1, g2⟩

theorem Nw.mut {i : Nat} {l : Bool} {ds ds' : List D} {a : Addr} {vs' : List V} (rl : Rel K pa le G H σ ρ) (hr : ρ[i]? = some (.ow l ds)) (hs : σ[i]? = some (some (.ref a))) (h : RpAll K G vs' ds') :
    Nw K pa le G H σ ρ G (upd H a (.lst vs')) σ (ρ.set i (.ow l ds')) := Nw.mutO rl hr hs (.l h)

/-- a slot is given something else -/
theorem Nw.store {i : Nat} {s : Sl} {x : Option V} (rl : Rel K pa le G H σ ρ) (hs : SlR K pa le G H i x s)
    (hn : ∀ l ds, s = .own l ds → ∃ a, x = some (.ref a) ∧ ¬ PotAt pa a ∧ ∀ j l ds, j ≠ i → ρ[j]? = some (Sl.own l ds) → σ[j]? ≠ some (some (.ref a))) :
    Rel K pa le G H (σ.set i x) (ρ.set i s) ∧ ∀ b, Own (σ.set i x) (ρ.set i s) b → Own σ ρ b ∨ (x = some (.ref b) ∧ ∃ l ds, s = .own l ds) := by
  have lk : ∀ j t, (ρ.set i s)[j]? = some t → (j = i ∧ t = s ∧ (σ.set i x)[j]? = some x) ∨ (j ≠ i ∧ ρ[j]? = some t ∧ (σ.set i x)[j]? = σ[j]?) := fun j t e => by
    by_cases hij : i = j
    · subst hij
      by_cases hil : i < ρ.length
      · rw [List.getElem?_set_self hil] at e; cases e
        exact .inl ⟨rfl, rfl, by rw [List.getElem?_set_self (by rw [← rl.len]; exact hil)]⟩
      · rw [List.getElem?_eq_none (by simpa using hil)] at e; cases e
    · rw [List.getElem?_set_ne hij] at e
      exact .inr ⟨Ne.symm hij, e, by rw [List.getElem?_set_ne hij]⟩
  have own : ∀ b, Own (σ.set i x) (ρ.set i s) b → Own σ ρ b ∨ (x = some (.ref b) ∧ ∃ l ds, s = .own l ds) := fun b ⟨j, l, ds, e1, e2⟩ => by
    rcases lk j _ e1 with ⟨rfl, z, z2⟩ | ⟨_, z1, z2⟩
    · rw [z2] at e2
      exact .inr ⟨Option.some.inj e2, l, ds, z.symm⟩
    · rw [z2] at e2
      exact .inl ⟨j, l, ds, z1, e2⟩
  refine ⟨⟨rl.ext, by rw [List.length_set, List.length_set]; exact rl.len, fun j t e => ?_, fun j k l1 l2 d1 d2 b z1 z2 z3 z4 => ?_, rl.pot, fun b hb hp => ?_⟩, own⟩
  · rcases lk j t e with ⟨rfl, rfl, z2⟩ | ⟨_, z1, z2⟩
    · exact ⟨x, z2, hs⟩
    · obtain ⟨ov, y1, y2⟩ := rl.sl j t z1
      exact ⟨ov, by rw [z2]; exact y1, y2⟩
  · rcases lk j _ z1 with ⟨rfl, y, y2⟩ | ⟨nj, y1, y2⟩
    · rcases lk k _ z2 with ⟨rfl, _, _⟩ | ⟨nk, w1, w2⟩
      · rfl
      · rw [y2] at z3
        rw [w2] at z4
        obtain ⟨a, e1, _, e2⟩ := hn l1 d1 y.symm
        rw [e1] at z3; cases z3
        exact absurd z4 (e2 k l2 d2 nk w1)
    · rcases lk k _ z2 with ⟨rfl, w, w2⟩ | ⟨nk, w1, w2⟩
      · rw [w2] at z4
        rw [y2] at z3
        obtain ⟨a, e1, _, e2⟩ := hn l2 d2 w.symm
        rw [e1] at z4; cases z4
        exact absurd z3 (e2 j l1 d1 nj y1)
      · rw [y2] at z3
        rw [w2] at z4
        exact rl.dis j k l1 l2 d1 d2 b y1 w1 z3 z4
  · rcases own b hb with z | ⟨z, l, ds, e⟩
    · exact rl.sep b z hp
    · obtain ⟨a, e1, n, _⟩ := hn l ds e
      rw [e1] at z; cases z
      exact n hp
theorem Nw.store_im {i : Nat} {d : D} (rl : Rel K pa le G H σ ρ) (h : Rp K G v d) : Nw K pa le G H σ ρ G H (σ.set i (some v)) (ρ.set i (.im d)) := by
  obtain ⟨r1, o1⟩ := Nw.store (i := i) (s := .im d) (x := some v) rl ⟨v, rfl, h⟩ (fun l ds e => nomatch e)
  refine ⟨Aft.refl, fun b hb => ?_, r1⟩
  rcases o1 b hb with z | ⟨_, l, ds, e⟩
  · exact .inl z
  · cases e
theorem Nw.store_pot {i : Nat} (rl : Rel K pa le G H σ ρ) (h : ∃ p, pa = some p ∧ v = .ref p.1) : Nw K pa le G H σ ρ G H (σ.set i (some v)) (ρ.set i .pot) := by
  obtain ⟨p, e1, e2⟩ := h
  obtain ⟨r1, o1⟩ := Nw.store (i := i) (s := .pot) (x := some v) rl ⟨p, e1, by rw [e2]⟩ (fun l ds e => nomatch e)
  refine ⟨Aft.refl, fun b hb => ?_, r1⟩
  rcases o1 b hb with z | ⟨_, l, ds, e⟩
  · exact .inl z
  · cases e
/-- a slot forgotten -/
theorem Rel.forget {i : Nat} (rl : Rel K pa le G H σ ρ) : Rel K pa le G H σ (ρ.set i Sl.no) ∧ ∀ b, Own σ (ρ.set i Sl.no) b → Own σ ρ b := by
  have lk : ∀ (j : Nat) (t : Sl), (ρ.set i Sl.no)[j]? = some t → t = .no ∨ ρ[j]? = some t := fun j t e => by
    by_cases hij : i = j
    · subst hij
      by_cases hil : i < ρ.length
      · rw [List.getElem?_set_self hil] at e; cases e; exact .inl rfl
      · rw [List.getElem?_eq_none (by simpa using hil)] at e; cases e
    · rw [List.getElem?_set_ne hij] at e; exact .inr e
  have own : ∀ b, Own σ (ρ.set i Sl.no) b → Own σ ρ b := fun b ⟨j, l, ds, e1, e2⟩ => by
    rcases lk j _ e1 with z | z
    · cases z
    · exact ⟨j, l, ds, z, e2⟩
  refine ⟨⟨rl.ext, by rw [List.length_set]; exact rl.len, fun j t e => ?_, fun j k l1 l2 d1 d2 b z1 z2 z3 z4 => ?_, rl.pot, fun b hb => rl.sep b (own b hb)⟩, own⟩
  · rcases lk j t e with rfl | z
    · have hj : j < (ρ.set i Sl.no).length := (List.getElem?_eq_some_iff.mp e).1
      rw [List.length_set, rl.len] at hj
      exact ⟨σ[j], List.getElem?_eq_getElem hj, trivial⟩
    · exact rl.sl j t z
  · rcases lk j _ z1 with y | y
    · cases y
    · rcases lk k _ z2 with w | w
      · cases w
      · exact rl.dis j k l1 l2 d1 d2 b y w z3 z4
end

/-! storing a result in a slot -/
def st (i : Nat) (r : R) (ρ : Rn) (Q : Rn → Prop) : Prop := match r with
  | .im d => Q (ρ.set i (.im d))
  | .tm o => Q (ρ.set i (.own false o))
  | .dead => False
  | .sl j => if j = i then Q ρ else fz (.sl j) ρ fun d ρ1 => Q (ρ1.set i (.im d))
  | .pot => Q (ρ.set i .pot)
theorem st_ok {c : Ct} {G0 H0 G H : Hp} {σ0 σ : L2.St} {ρ0 ρ : Rn} {v : V} {r : R} {i : Nat} {Q : Rn → Prop} (r0 : Rel c.K c.pa c.le G0 H0 σ0 ρ0) (n : Nw c.K c.pa c.le G0 H0 σ0 ρ0 G H σ ρ) (h : RR c.K c.pa G H σ ρ v r) (fr : Frs H0 σ0 ρ0 v r) (q : st i r ρ Q) :
    ∃ G' ρ', Nw c.K c.pa c.le G0 H0 σ0 ρ0 G' H (σ.set i (some v)) ρ' ∧ Q ρ' := by
  cases r with
  | im d => exact ⟨G, _, n.trans r0 (Nw.store_im n.r h), q⟩
  | pot => exact ⟨G, _, n.trans r0 (Nw.store_pot n.r h), q⟩
  | dead => exact q.elim
  | tm ds =>
    obtain ⟨a, vs, rfl, g, hh, ra, n1, n2⟩ := h
    obtain ⟨r1, o1⟩ := Nw.store (i := i) (s := .own false ds) (x := some (.ref a)) n.r ⟨a, vs, rfl, g, hh, ra, fun z => nomatch z⟩
      (fun l es e => ⟨a, rfl, n2, fun j l' es' _ e1 e2 => n1 ⟨j, l', es', e1, e2⟩⟩)
    refine ⟨G, _, ⟨n.a, fun b hb => ?_, r1⟩, q⟩
    rcases o1 b hb with z | ⟨z, _⟩
    · exact n.o b z
    · cases z
      exact (fr a rfl).symm
  | sl j =>
    have q' : if j = i then Q ρ else fz (.sl j) ρ fun d ρ1 => Q (ρ1.set i (.im d)) := q
    have hj : σ[j]? = some (some v) := h
    by_cases e : j = i
    · rw [if_pos e] at q'
      subst e
      have : σ.set j (some v) = σ := by
        apply List.ext_getElem?
        intro k
        by_cases hk : j = k
        · subst hk
          rw [List.getElem?_set_self (List.getElem?_eq_some_iff.mp hj).1, hj]
        · rw [List.getElem?_set_ne hk]
      rw [this]
      exact ⟨G, ρ, n, q'⟩
    · rw [if_neg e] at q'
      obtain ⟨G1, d, ρ1, s1, A1, O1, _, r1, hd, q1⟩ := fz_ok r0 n.a n.o n.r h fr q'
      have n1 : Nw c.K c.pa c.le G0 H0 σ0 ρ0 G1 H σ ρ1 := ⟨A1, O1, r1⟩
      exact ⟨G1, _, n1.trans r0 (Nw.store_im r1 hd), q1⟩

/-! ### statements -/
section
variable {X : Cx} {c : Ct} {e a b : Expr} {es : List Expr} {sm : Stmt} {rest : List Stmt}
def wNil : WS := fun P ρ => P.nx ρ
def wSeq (t u : WS) : WS := fun P ρ => t { P with nx := u P } ρ
theorem d_snil : DSs X c [] wNil := PSsw pss_nil fun D σ H ⟨G, ρ, P, rl, hw, h1, _⟩ => h1 σ ρ G H (Nw.refl rl) hw
theorem d_sone {w : WS} (h : DS X c sm w) : DSs X c [sm] w := pss_one h
theorem ls_seq {t u : WS} {D : Ends} {σ : L2.St} {H : Hp} (h : LS c (wSeq t u) D σ H) : LS c t { D with nx := LS c u D } σ H := by
  obtain ⟨G, ρ, P, rl, hw, h1, h2, h3, h4, h5⟩ := h
  refine ⟨G, ρ, { P with nx := u P }, rl, hw, fun σ1 ρ1 G1 H1 n1 q => ?_, h2, h3, h4, h5⟩
  exact ⟨G1, ρ1, P, n1.r, q, fun σ' ρ' G' H' n2 q2 => h1 σ' ρ' G' H' (n1.trans rl n2) q2, fun v r σ' ρ' G' H' n2 rr fr q2 => h2 v r σ' ρ' G' H' (n1.trans rl n2) rr (fr.trans n1) q2,
    fun σ' ρ' G' H' n2 q2 => h3 σ' ρ' G' H' (n1.trans rl n2) q2, fun σ' ρ' G' H' n2 q2 => h4 σ' ρ' G' H' (n1.trans rl n2) q2, h5.trans rl n1⟩
theorem d_scons {t u : WS} (h : DS X c sm t) (h2 : DSs X c rest u) : DSs X c (sm :: rest) (wSeq t u) := PSsw (pss_cons h h2) fun D σ H q => ls_seq q
def wBrk : WS := fun P ρ => P.bk ρ
def wCnt : WS := fun P ρ => P.ct ρ
theorem d_pass {pos : Pos} : DS X c (.Pass pos) wNil := PSw ps_pass fun D σ H ⟨G, ρ, P, rl, hw, h1, _⟩ => h1 σ ρ G H (Nw.refl rl) hw
theorem d_brk {pos : Pos} : DS X c (.Break pos) wBrk := PSw ps_break fun D σ H ⟨G, ρ, P, rl, hw, _, _, h3, _⟩ => h3 σ ρ G H (Nw.refl rl) hw
theorem d_cnt {pos : Pos} : DS X c (.Continue pos) wCnt := PSw ps_continue fun D σ H ⟨G, ρ, P, rl, hw, _, _, _, h4, _⟩ => h4 σ ρ G H (Nw.refl rl) hw
def wDrop (we : WE) : WS := fun P ρ => we ρ (fun _ ρ1 => P.nx ρ1) P.ex
theorem d_drop {we : WE} {pos : Pos} (h : DE X c e we) (hs : swapsWith e none pos.line X.env = pure false := by rfl) : DS X c (.Expr e pos) (wDrop we) :=
  PSw (ps_expr h hs) fun D σ H ⟨G, ρ, P, rl, hw, h1, _, _, _, h5⟩ => ⟨G, ρ, _, P.ex, rl, hw, fun v r ρ1 G1 H1 n1 _ _ q => h1 σ ρ1 G1 H1 n1 q, h5⟩
/-- a result leaves the def -/
def lv (r : R) (ρ : Rn) (Q : R → Rn → Prop) : Prop := match r with
  | .sl i => match ρ[i]? with
    | some (.own false o) => Q (.tm o) (ρ.set i .no)
    | some (.own true (.l ds)) => Q (.im (.list ds)) (ρ.set i (.im (.list ds)))
    | some (.im d) => Q (.im d) ρ
    | _ => False
  | r => Q r ρ
def wRet (we : WE) : WS := fun P ρ => we ρ (fun r ρ1 => lv r ρ1 P.rt) P.ex
theorem d_ret {we : WE} {pos : Pos} (h : DE X c e we) : DS X c (.Return (some e) pos) (wRet we) :=
  PSw (ps_ret h) fun D σ H ⟨G, ρ, P, rl, hw, _, h2, _, _, h5⟩ => ⟨G, ρ, _, P.ex, rl, hw, fun v r ρ1 G1 H1 n1 rr fr q => by
    cases r with
    | im d => exact h2 v _ σ ρ1 G1 H1 n1 rr fr q
    | tm o => exact h2 v _ σ ρ1 G1 H1 n1 rr fr q
    | dead => exact h2 v _ σ ρ1 G1 H1 n1 rr fr q
    | pot => exact h2 v _ σ ρ1 G1 H1 n1 rr fr q
    | sl i =>
      have q' : (match ρ1[i]? with
        | some (.own false o) => P.rt (.tm o) (ρ1.set i .no)
        | some (.own true (.l ds)) => P.rt (.im (.list ds)) (ρ1.set i (.im (.list ds)))
        | some (.im d) => P.rt (.im d) ρ1
        | _ => False) := q
      have hv : σ[i]? = some (some v) := rr
      cases e1 : ρ1[i]? with
      | none => rw [e1] at q'; exact q'.elim
      | some s =>
        rw [e1] at q'
        obtain ⟨ov, z1, z2⟩ := n1.r.sl i s e1
        rw [hv] at z1; cases z1
        cases s with
        | no => exact q'.elim
        | pot => exact q'.elim
        | im d =>
          obtain ⟨x, z3, z4⟩ := z2
          cases z3
          exact h2 v (.im d) σ ρ1 G1 H1 n1 z4 trivial q'
        | own l o =>
          obtain ⟨x, vs, z3, z4, z5, z6, z7⟩ := z2
          cases z3
          have ho : Own σ ρ1 x := ⟨i, l, o, e1, hv⟩
          cases l with
          | false =>
            obtain ⟨r1, o1⟩ := n1.r.forget (i := i)
            have n2 : Nw c.K c.pa c.le G H σ ρ G1 H1 σ (ρ1.set i .no) := ⟨n1.a, fun b hb => n1.o b (o1 b hb), r1⟩
            refine h2 (.ref x) (.tm o) σ (ρ1.set i .no) G1 H1 n2 ⟨x, vs, rfl, z4, z5, z6, fun ⟨j, l', es, y1, y2⟩ => ?_, n1.r.sep x ho⟩ (fun b e => by cases e; exact (n1.o x ho).symm) q'
            by_cases hij : i = j
            · subst hij
              rw [List.getElem?_set_self (List.getElem?_eq_some_iff.mp e1).1] at y1; cases y1
            · rw [List.getElem?_set_ne hij] at y1
              exact hij (n1.r.dis i j false l' o es x e1 y1 hv y2)
          | true =>
           cases o with
           | d kvs => exact q'.elim
           | t kvs => exact q'.elim
           | l ds =>
            have qf : fz (.sl i) ρ1 fun d ρ2 => d = .list ds ∧ ρ2 = ρ1.set i (.im (.list ds)) := by
              show (match ρ1[i]? with
                | some (.own _ (.l ds')) => (PyData.list ds' = .list ds ∧ ρ1.set i (.im (.list ds')) = ρ1.set i (.im (.list ds)))
                | some (.im d) => (d = .list ds ∧ ρ1 = ρ1.set i (.im (.list ds)))
                | _ => False)
              rw [e1]
              exact ⟨rfl, rfl⟩
            obtain ⟨G2, d, ρ2, s1, A1, O1, _, r1, hd, rfl, rfl⟩ := fz_ok rl n1.a n1.o n1.r rr trivial qf
            exact h2 (.ref x) (.im (.list ds)) σ _ G2 H1 ⟨A1, O1, r1⟩ hd trivial q', h5⟩
def wRetN : WS := fun P ρ => P.rt (.im .none) ρ
theorem d_retN {pos : Pos} : DS X c (.Return none pos) wRetN := PSw ps_retN fun D σ H ⟨G, ρ, P, rl, hw, _, h2, _⟩ => h2 .non (.im .none) σ ρ G H (Nw.refl rl) .non trivial hw
def wIfS (t : WT) (u w : WS) : WS := fun P ρ => t ρ (fun k ρ1 => IfW k (u P ρ1) (w P ρ1)) P.ex
theorem LS.at_ {w : WS} {D : Ends} {P : Po} {G H G1 H1 : Hp} {σ σ1 : L2.St} {ρ ρ1 : Rn} (rl : Rel c.K c.pa c.le G H σ ρ) (n1 : Nw c.K c.pa c.le G H σ ρ G1 H1 σ1 ρ1) (q : w P ρ1)
    (h1 : ∀ σ' ρ' G' H', Nw c.K c.pa c.le G H σ ρ G' H' σ' ρ' → P.nx ρ' → D.nx σ' H') (h2 : ∀ v r σ' ρ' G' H', Nw c.K c.pa c.le G H σ ρ G' H' σ' ρ' → RR c.K c.pa G' H' σ' ρ' v r → Frs H σ ρ v r → P.rt r ρ' → D.rt v H')
    (h3 : ∀ σ' ρ' G' H', Nw c.K c.pa c.le G H σ ρ G' H' σ' ρ' → P.bk ρ' → D.bk σ' H') (h4 : ∀ σ' ρ' G' H', Nw c.K c.pa c.le G H σ ρ G' H' σ' ρ' → P.ct ρ' → D.ct σ' H') (h5 : LX c G H σ ρ P.ex) : LS c w D σ1 H1 :=
  ⟨G1, ρ1, P, n1.r, q, fun σ' ρ' G' H' n2 q2 => h1 σ' ρ' G' H' (n1.trans rl n2) q2, fun v r σ' ρ' G' H' n2 rr fr q2 => h2 v r σ' ρ' G' H' (n1.trans rl n2) rr (fr.trans n1) q2,
    fun σ' ρ' G' H' n2 q2 => h3 σ' ρ' G' H' (n1.trans rl n2) q2, fun σ' ρ' G' H' n2 q2 => h4 σ' ρ' G' H' (n1.trans rl n2) q2, h5.trans rl n1⟩
theorem d_if {t : WT} {u w : WS} {cnd : Expr} {sa sb : List Stmt} {pos : Pos} (ht : DT X c cnd t) (ha : DSs X c sa u) (hb : DSs X c sb w) : DS X c (.If cnd sa sb pos) (wIfS t u w) :=
  PSw (ps_if ht ha hb) fun D σ H ⟨G, ρ, P, rl, hw, h1, h2, h3, h4, h5⟩ => ⟨G, ρ, _, P.ex, rl, hw, fun k ρ1 G1 H1 n1 q => by
    cases k with
    | true => exact LS.at_ rl n1 (q.t rfl) h1 h2 h3 h4 h5
    | false => exact LS.at_ rl n1 (q.f rfl) h1 h2 h3 h4 h5, h5⟩
/-- name = value -/
def wSet (i : Nat) (we : WE) : WS := fun P ρ => we ρ (fun r ρ1 => st i r ρ1 P.nx) P.ex
theorem d_set {i : Nat} {x : Str} {we : WE} {pos pos' : Pos} (hN : X.N.Nodup) (hi : X.N[i]? = some x) (hx : Loc X.env.scope x) (h : DE X c e we) (hs : swapsWith e (some (.Name x pos')) pos.line X.env = pure false := by rfl) (hf : X.fn x = true ∨ X.env.scope.names.lookup x = some .local := by first | exact .inl rfl | exact .inr rfl | assumption) :
    DS X c (.Assign [.Name x pos'] e pos) (wSet i we) :=
  PSw (ps_set hN hi hx h hs hf) fun D σ H ⟨G, ρ, P, rl, hw, h1, h2, h3, h4, h5⟩ => ⟨G, ρ, _, P.ex, rl, hw, fun v r ρ1 G1 H1 n1 rr fr q => by
    obtain ⟨G2, ρ2, n2, q2⟩ := st_ok rl n1 rr fr q
    exact h1 _ ρ2 G2 H1 n2 q2, h5⟩

/-! ### targets -/
abbrev WG := D → Rn → (Rn → Prop) → (Xn → Prop) → Prop
abbrev WGs := List D → Rn → (Rn → Prop) → (Xn → Prop) → Prop
def LG (c : Ct) (w : WG) : TG := fun v σ H Q => ∃ G ρ d Qd Qx, Rel c.K c.pa c.le G H σ ρ ∧ Rp c.K G v d ∧ w d ρ Qd Qx ∧ (∀ σ' ρ' G' H', Nw c.K c.pa c.le G H σ ρ G' H' σ' ρ' → Qd ρ' → Q σ' H') ∧ LX c G H σ ρ Qx
def LGs (c : Ct) (w : WGs) : TGs := fun vs σ H Q => ∃ G ρ ds Qd Qx, Rel c.K c.pa c.le G H σ ρ ∧ RpAll c.K G vs ds ∧ w ds ρ Qd Qx ∧ (∀ σ' ρ' G' H', Nw c.K c.pa c.le G H σ ρ G' H' σ' ρ' → Qd ρ' → Q σ' H') ∧ LX c G H σ ρ Qx
abbrev DG (X : Cx) (c : Ct) (t : Expr) (w : WG) : Prop := PG X t (LG c w)
abbrev DGs (X : Cx) (c : Ct) (ts : List Expr) (w : WGs) : Prop := PGs X ts (LGs c w)
theorem PGw {t t' : TG} {tg : Expr} (h : PG X tg t) (i : ∀ v σ H Q, t' v σ H Q → t v σ H Q) : PG X tg t' := ⟨fun pins s σ H v u Q I r hq => h.run pins s σ H v u Q I r (i v σ H Q hq)⟩
theorem PGsw {t t' : TGs} {tg : List Expr} (h : PGs X tg t) (i : ∀ v σ H Q, t' v σ H Q → t v σ H Q) : PGs X tg t' := ⟨fun pins s σ H v u Q I r hq => h.run pins s σ H v u Q I r (i v σ H Q hq)⟩
def wgN (i : Nat) : WG := fun d ρ Q _ => Q (ρ.set i (.im d))
theorem d_gN {i : Nat} {x : Str} {pos : Pos} (h : PG X (.Name x pos) (gName i)) : DG X c (.Name x pos) (wgN i) :=
  PGw h fun v σ H Q ⟨G, ρ, d, Qd, Qx, rl, hd, hw, hQ, hX⟩ => hQ _ _ G H (Nw.store_im rl hd) hw
def wgsN : WGs := fun ds ρ Q _ => match ds with
  | [] => Q ρ
  | _ => False
def wgsC (g : WG) (gs : WGs) : WGs := fun ds ρ Q Qx => match ds with
  | d :: r => g d ρ (fun ρ1 => gs r ρ1 Q Qx) Qx
  | _ => False
theorem d_gsN : DGs X c [] wgsN := PGsw pgs_nil fun vs σ H Q ⟨G, ρ, ds, Qd, Qx, rl, hd, hw, hQ, hX⟩ => by
  cases ds with
  | nil =>
    cases hd
    exact ⟨rfl, hQ σ ρ G H (Nw.refl rl) hw⟩
  | cons d r => exact hw.elim
theorem d_gsC {g : WG} {gs : WGs} (h1 : DG X c e g) (h2 : DGs X c es gs) (hs : (assignEach (e :: es) X.env).map (·.2) = assign e X.env :: (assignEach es X.env).map (·.2) := by rfl) : DGs X c (e :: es) (wgsC g gs) :=
  PGsw (pgs_cons h1 h2 hs) fun vs σ H Q ⟨G, ρ, ds, Qd, Qx, rl, hd, hw, hQ, hX⟩ => by
    cases ds with
    | nil => exact hw.elim
    | cons d r =>
      cases hd with
      | cons hd1 hd2 =>
        refine ⟨_, _, rfl, G, ρ, d, _, Qx, rl, hd1, hw, fun σ1 ρ1 G1 H1 n1 q => ?_, hX⟩
        exact ⟨G1, ρ1, r, Qd, Qx, n1.r, RpAll.mono n1.a.g _ _ hd2, q, fun σ' ρ' G' H' n2 q2 => hQ σ' ρ' G' H' (n1.trans rl n2) q2, hX.trans rl n1⟩
def wgT (n : Nat) (gs : WGs) : WG := fun d ρ Q Qx => match d with
  | .tuple ds => ds.length = n ∧ gs ds ρ Q Qx
  | _ => False
theorem d_gT {k : Nat} {gs : WGs} {n : Nat} {pos : Pos} (hK : X.K = c.K) (hc : X.calm = true) (h : DGs X c es gs) (hn : (assignEach es X.env).length = n := by rfl) (hst : (assignEach es X.env).findIdx? (·.1) = none := by rfl) : DG X c (.Tuple es k pos) (wgT n gs) :=
  PGw (pg_tup hc h hn hst) fun v σ H Q ⟨G, ρ, d, Qd, Qx, rl, hd, hw, hQ, hX⟩ => by
    cases d with
    | tuple ds =>
      obtain ⟨hl, hw⟩ := hw
      cases hd with
      | tup h1 h2 =>
        refine ⟨_, _, rfl, ?_, by rw [RpAll.length h2]; exact hl, G, ρ, ds, Qd, Qx, rl, h2, hw, hQ, hX⟩
        rw [hK]
        exact (h1.mono rl.ext).sq
    | _ => exact hw.elim
/-- xs[i] = d -/
def setAt (o i : R) (d : D) (ρ : Rn) (Q : Rn → Prop) : Prop := match o, vw ρ i with
  | .sl j, some (.int k) => match ρ[j]? with
    | some (.own l (.l ds)) => match ixN ds.length k with
      | some n => Q (ρ.set j (.ow l (ds.set n d)))
      | none => False
    | _ => False
  | _, _ => False
theorem vw_int {c : Ct} {G H : Hp} {σ : L2.St} {ρ : Rn} {v : V} {r : R} {k : Int} (rl : Rel c.K c.pa c.le G H σ ρ) (h : RR c.K c.pa G H σ ρ v r) (e : vw ρ r = some (.int k)) : v = .int k := by
  have := vw_ok rl h e
  cases this
  rfl
theorem setAt_ok {G H : Hp} {σ : L2.St} {ρ : Rn} {o i : R} {ov iv v : V} {d : D} {Q : Rn → Prop} (rl : Rel c.K c.pa c.le G H σ ρ) (ho : RR c.K c.pa G H σ ρ ov o) (hi : RR c.K c.pa G H σ ρ iv i) (hd : Rp c.K G v d) (q : setAt o i d ρ Q) :
    ∃ p xs k j, ov = .ref p ∧ iv = .int k ∧ H p = some (.lst xs) ∧ ixN xs.length k = some j ∧ ∃ ρ', Nw c.K c.pa c.le G H σ ρ G (upd H p (.lst (xs.set j v))) σ ρ' ∧ Q ρ' := by
  unfold setAt at q
  split at q
  · rename_i j k e1
    have hk := vw_int rl hi e1
    split at q
    · rename_i l ds e2
      split at q
      · rename_i n e3
        have hv : σ[j]? = some (some ov) := ho
        obtain ⟨x, z1, a, ho', z3, z4, z5, z6, z7⟩ := rl.sl j _ e2
        rw [hv] at z1; cases z1; cases z3
        cases z6 with
        | l z6 => exact ⟨a, _, k, n, rfl, hk, z5, by rw [RpAll.length z6]; exact e3, _, Nw.mut rl e2 hv (RpAll.set hd n z6), q⟩
      · exact q.elim
    · exact q.elim
  · exact q.elim
def wgS (wo wi : WE) : WG := fun d ρ Q Qx => wo ρ (fun o ρ1 => wi ρ1 (fun i ρ2 => setAt (pin o) (pin i) d ρ2 Q) Qx) Qx
theorem d_gS {wo wi : WE} {pos : Pos} (ho : DE X c a wo) (hi : DE X c b wi)
    (ha : ∀ v, assign (.Subscript a b pos) X.env v = (do
      let ov ← holding [v] (eval a X.env)
      let iv ← holding [v, ov] (eval b X.env)
      standAt pos
      holding [v, ov, iv] (setItem ov iv v)
      release [v, ov, iv] []) := by intro _; rfl) : DG X c (.Subscript a b pos) (wgS wo wi) :=
  PGw (pg_sub ho hi set_list ha) fun v σ H Q ⟨G, ρ, d, Qd, Qx, rl, hd, hw, hQ, hX⟩ => by
    refine ⟨G, ρ, _, Qx, rl, hw, fun ov o ρ1 G1 H1 n1 rr fr q => ?_, hX⟩
    obtain ⟨G2, n2, _, rr2⟩ := n1.pin rl rr fr
    refine ⟨G2, ρ1, _, Qx, n2.r, q, fun iv i ρ3 G3 H3 n3 rr3 fr3 q3 => ?_, hX.trans rl n2⟩
    obtain ⟨G4, n4, _, rr4⟩ := n3.pin n2.r rr3 fr3
    have n5 := n2.trans rl n4
    obtain ⟨p, xs, k, j, e1, e2, e3, e4, ρ', n6, q6⟩ := setAt_ok n4.r (calm_RR (pin_calm o) n4.a.g rr2) rr4 (Rp.mono n5.a.g _ _ hd) q3
    exact ⟨p, xs, k, j, e1, e2, e3, e4, hQ _ _ _ _ (n5.trans rl n6) q6⟩
/-- target = value, the value shut -/
def wAsg (we : WE) (g : WG) : WS := fun P ρ => we ρ (fun r ρ1 => fz r ρ1 fun d ρ2 => g d ρ2 P.nx P.ex) P.ex
theorem d_asg {tg : Expr} {we : WE} {g : WG} {pos : Pos} (he : DE X c e we) (hg : DG X c tg g) (hs : swapsWithSole [tg] e pos.line X.env = pure false := by rfl) (hw : swappedStores [tg] e X.env = pure none := by rfl)
    (h1 : (assignEach [tg] X.env).map (·.2) = [assign tg X.env] := by rfl) : DS X c (.Assign [tg] e pos) (wAsg we g) :=
  PSw (ps_asg he hg hs hw h1) fun D σ H ⟨G, ρ, P, rl, hw, h1, h2, h3, h4, h5⟩ => ⟨G, ρ, _, P.ex, rl, hw, fun v r ρ1 G1 H1 n1 rr fr q => by
    obtain ⟨G2, d, ρ2, s1, A1, O1, _, r1, hd, q1⟩ := fz_ok rl n1.a n1.o n1.r rr fr q
    have n2 : Nw c.K c.pa c.le G H σ ρ G2 H1 σ ρ2 := ⟨A1, O1, r1⟩
    exact ⟨G2, ρ2, d, P.nx, P.ex, r1, hd, q1, fun σ' ρ' G' H' n3 q3 => h1 σ' ρ' G' H' (n2.trans rl n3) q3, h5.trans rl n2⟩, h5⟩
end
end Tr

namespace Tr
open PySem L2

/-- room for calls, and no repr under way -/
structure Rm (k : Nat) (A : Around) : Prop where
  r : Room k A
  g : A.guards = some []
theorem Rm.mono {j k : Nat} {A : Around} (h : Rm k A) (e : j ≤ k) : Rm j A := ⟨h.r.mono e, h.g⟩
theorem Rm.deep {k : Nat} {A : Around} (h : Rm (k + 1) A) (env : Env) : Rm k (A.deeper env) := ⟨h.r.deeper env, h.g⟩

/-- a def keeps a promise, called where no repr is under way -/
structure FnG (P : Program) (w : World) (K : PySem.W.Frag) (mg : Str → Option Value) (base : Heap) (CX : CXT) (k : Nat) (f : Addr) (fd : FuncData) (ps : List Str) (sp : Sp) : Prop where
  len : ∀ vs H Q E, sp vs H Q E → vs.length = ps.length
  run : ∀ (A : Around) (outer : List Env) (s : Shared) (H : Hp) (args : Args) (us : List Value) (vs : List V) (Q : VK) (E : XK),
    Rm k A → Env0 P w K mg base A outer s H → BindsTo s fd args (ps.zip us) → Vals vs us → sp vs H Q E → codeAny (model P w) A (.call (.ref f) args) (CR CX outer P w H s Q E) s
section
variable {P : Program} {w : World} {K : PySem.W.Frag} {mg : Str → Option Value} {base : Heap} {CX : CXT} {k : Nat} {f : Addr} {fd : FuncData} {ps : List Str} {sp : Sp}
theorem FnG.mono {j : Nat} (F : FnG P w K mg base CX j f fd ps sp) (h : j ≤ k) : FnG P w K mg base CX k f fd ps sp :=
  ⟨F.len, fun A o s H args us vs Q E hr => F.run A o s H args us vs Q E (hr.mono h)⟩
theorem FnG.imp {sp' : Sp} (F : FnG P w K mg base CX k f fd ps sp) (h : ∀ vs H Q E, sp' vs H Q E → sp vs H Q E) : FnG P w K mg base CX k f fd ps sp' :=
  ⟨fun vs H Q E q => F.len vs H Q E (h _ _ _ _ q), fun A o s H args us vs Q E hr he hb hv hs => F.run A o s H args us vs Q E hr he hb hv (h _ _ _ _ hs)⟩
/-- by the def's body -/
theorem FnG.of_body {x qual : Str} {sm : Stmt} {N : List Str} (F : Fun K x qual sm f fd) (S : FnScope N ps (defScope sm)) (len : ∀ vs H Q E, sp vs H Q E → vs.length = ps.length)
    (hbody : ∀ (cdv : Value) (A : Around) (outer : List Env) (s : Shared) (H : Hp) (vs : List V) (Q : VK) (E : XK), Rm k (A.deeper (PyProof.Rows.envOfC qual (defScope sm) s.heap.objs.size f cdv)) → sp vs H Q E →
      ∃ t, PSs (cxOf CX P w K mg base N qual (defScope sm) f cdv A outer s H E) (defBody sm) t ∧ t { nx := fun _ H' => Q .non H', rt := Q } (L2.start N vs) H) : FnG P w K mg base CX (k + 1) f fd ps sp := by
  obtain ⟨oc, od, kV, doc, pm, an, cdv, ct, osl, rfl, lk, hcd⟩ := F.ex
  refine ⟨len, fun A outer s H args us vs Q E hr e0 hb r hsp => ?_⟩
  have hl := len _ _ _ _ hsp
  have up : ∀ b o, base.get? b = some o → s.heap.get? b = some o := fun b o e => (e0.bs b o e).1
  have kx : K.In s.heap := e0.mod.kin.keeps up
  have nl : s.heap.NoLimit := e0.mod.nolimit.keeps up
  have kinds : ∀ y ∈ ps.zip us, (defScope sm).names.lookup y.1 = some .local ∨ ((defScope sm).names.lookup y.1 = some .cell ∧ ((cellsFrom (s.heap.objs.size + 1) (defScope sm).names []).lookup y.1).isSome = true) := by
    rintro ⟨n, v⟩ hy
    rcases S.par n (List.of_mem_zip hy).1 with q | q
    · exact Or.inl q
    · exact Or.inr ⟨q, PySem.W.cellsFrom_some _ _ _ (Or.inl q)⟩
  refine codeAny_call_function hr.r.depth (kx _ _ lk) rfl S.co S.gen rfl (PySem.W.codeRec_of kx hcd) (hb _ _ _ _ ?_)
  refine wpAny_newFunctionEnv_cells S.kind kinds fun env he s1 x => ?_
  subst he
  refine ⟨nl.keeps x.toInCall.keep, codeAny_func ?_⟩
  obtain ⟨t, ht, hq⟩ := hbody cdv A outer s H vs Q E (hr.deep _) hsp
  have I := inv_start (CX := CX) (E := E) (f := f) (cd := cdv) (qual := qual) S hr.r.hd e0 hl r x
  have fin : ∀ {σ' : L2.St} {H' : Hp} {v : V} {u : Value} {s' : Shared}, Inv (cxOf CX P w K mg base N qual (defScope sm) f cdv A outer s H E) [] σ' H' s' → RelV v u → Q v H' → CE outer P w H s Q u s' :=
    fun {σ' H' v u s'} J rv q => ⟨v, H', J.os, J.bare, J.base, J.hok, rv, q⟩
  refine wpAny_mono (ht.run [] s1 (L2.start N vs) H _ I hq) (fun fl s' hs => ?_) fun e s' hs => hs
  match fl, hs with
  | .ret u, ⟨v, σ', H', J, rv, q⟩ => exact fin J rv q
  | .next, ⟨σ', H', J, q⟩ => exact fin (v := V.non) (u := Value.none) J rfl q
  | .brk, ⟨_, _, _, q⟩ => exact False.elim q
  | .cont, ⟨_, _, _, q⟩ => exact False.elim q
end

section
variable {X : Cx} {CX : CXT} {k : Nat} {f : Addr} {fd : FuncData} {ps ks : List Str} {sp : Sp} {E : XK} {x : Str} {p pos : Pos} {e : Expr} {es : List Expr} {kws : List Keyword} {t tk : TA} {dvs : List V} {ds : List Value}
theorem run_g {args : Args} {pins : List (Addr × Obj)} {σ : L2.St} {H : Hp} {s : Shared} {Q : VK} {us : List Value} {vs : List V} (F : FnG X.prog X.w X.K X.mg X.base CX k f fd ps sp) (hr : Rm k X.A) (hx : Passes CX X E)
    (I : Inv X pins σ H s) (r : Vals vs us) (hb : us.length = ps.length → BindsTo s fd args (ps.zip us)) (h : sp vs H Q E) : wpAny (model X.prog X.w) X.A (call (.ref f) args.pos args.kw) (EP X pins σ Q) X.xe s := by
  have hl : us.length = ps.length := r.length.symm.trans (F.len _ _ _ _ h)
  refine wpAny_call (codeAny_mono (F.run X.A X.stack s H args us vs Q E hr I.env0 (hb hl) r h) fun fl s' hq => ?_)
  match fl, hq with
  | .error e, hq => exact hx pins σ H s e s' I hq
  | .ok (.ret u), hq => exact I.after hq
  | .ok .next, hq => exact False.elim hq
  | .ok .brk, hq => exact False.elim hq
  | .ok .cont, hq => exact False.elim hq
theorem pe_callG (F : FnG X.prog X.w X.K X.mg X.base CX k f fd ps sp) (hr : Rm k X.A) (hg : Gl X x) (hm : X.mg x = some (.ref f)) (hk : PySem.W.keepIn X.K (.ref f) = true) (hb : Binds X.K fd ps ds) (hd : Vals dvs ds) (hx : Passes CX X E)
    (ha : PA X (e :: es) t) (hdb : (x == ("__debug__" : Str)) = false := by decide) (he : starEach (e :: es) X.env = (false, eval e X.env) :: starEach es X.env := by rfl) (hpl : (backTo pos (starEach es X.env)).any (·.1) = false := by rfl) :
    PE X (.Call (.Name x p) (e :: es) [] pos) (tCall sp dvs E t) :=
  ⟨fun pins s σ H Q I h => wpAny_Call_Name_kw (ld_glob I hg hm (PySem.W.callWith_K (h₀ := X.base) I.ok.mod.kin hk (thn (ha.run pos pins s σ H _ I h) fun us s1 ⟨vs, H1, I1, r, q⟩ =>
    ⟨I1.kIn, run_g (args := ⟨us, []⟩) (us := us ++ ds) F hr hx I1 (r.append hd) (fun hl => hb s1 us I1.kIn hl) q⟩) he hpl) hdb)⟩
theorem pe_callG0 (F : FnG X.prog X.w X.K X.mg X.base CX k f fd ps sp) (hr : Rm k X.A) (hg : Gl X x) (hm : X.mg x = some (.ref f)) (hk : PySem.W.keepIn X.K (.ref f) = true) (hb : Binds X.K fd ps ds) (hd : Vals dvs ds) (hx : Passes CX X E)
    (hdb : (x == ("__debug__" : Str)) = false := by decide) : PE X (.Call (.Name x p) [] [] pos) (tCall sp dvs E tNil) :=
  ⟨fun pins s σ H Q I h => wpAny_Call_Name_kw (ld_glob I hg hm (PySem.W.callWith_K0 I.kIn hk (run_g (args := ⟨[], []⟩) (us := [] ++ ds) F hr hx I (Vals.append .nil hd) (fun hl => hb s [] I.kIn hl) h)) hdb)⟩
theorem pe_callGK {g : List Value → List Value → List Value} {gV : List V → List V → List V} (F : FnG X.prog X.w X.K X.mg X.base CX k f fd ps sp) (hr : Rm k X.A) (hg : Gl X x) (hm : X.mg x = some (.ref f)) (hk : PySem.W.keepIn X.K (.ref f) = true) (hb : KBinds X.K fd ps ks g gV) (hx : Passes CX X E)
    (ha : PA X (e :: es) t) (hkw : PK X kws tk) (hall : (backToKw pos (keywordEach kws X.env)).all (·.1.isSome) = true := by rfl) (hks : (backToKw pos (keywordEach kws X.env)).filterMap (·.1) = ks := by rfl)
    (hdb : (x == ("__debug__" : Str)) = false := by decide) (he : starEach (e :: es) X.env = (false, eval e X.env) :: starEach es X.env := by rfl)
    (hpl : ((backTo pos (starEach (e :: es) X.env)).any (·.1) || (backToKw pos (keywordEach kws X.env)).any (·.1.isNone)) = false := by rfl) : PE X (.Call (.Name x p) (e :: es) kws pos) (tCallK sp gV E t tk) := by
  refine ⟨fun pins s σ H Q I h => wpAny_Call_Name_kw (ld_glob I hg hm ?_ hdb)⟩
  refine PySem.W.callWith_KW (h₀ := X.base) I.ok.mod.kin hk hall (thn (ha.run pos pins s σ H _ I h) fun us s1 ⟨vs, H1, I1, r, q⟩ => ?_) hpl he
  refine thn (hkw.run pos pins s1 σ H1 _ I1 q) fun ws s2 ⟨zs, H2, I2, rz, q2⟩ => ⟨I2.kIn, ?_⟩
  rw [hks]
  exact run_g (args := ⟨us, ks.zip ws⟩) F hr hx I2 (hb.rel r rz) (fun hl => hb.to s2 us ws I2.kIn hl) q2
end

/-! ### a def's contract by its tree transformer -/
def spT (K : PySem.W.Frag) (mg : Str → Option Value) (N : List Str) (np : Nat) (w : WS) : Sp := fun vs H Q E => vs.length = np ∧ ∃ pa le, LS ⟨K, mg, pa, le, E⟩ w { nx := fun _ H' => Q .non H', rt := Q } (L2.start N vs) H
/-- a def's run over data: n slots; the parameters' slots are given -/
structure fnW (n : Nat) (w : WS) (sls : List Sl) (Qd : R → Rn → Prop) (Qx : Xn → Prop) : Prop where
  run : w ⟨fun ρ => Qd (.im .none) ρ, fun r ρ => (match r with
    | .sl _ => False
    | r => Qd r ρ), fun _ => False, fun _ => False, Qx⟩ (sls ++ List.replicate (n - sls.length) .no)
/-- the arguments handed over, shut -/
def fzp : List R → Rn → (List Sl → Rn → Prop) → Prop
  | [], ρ, Q => Q [] ρ
  | .pot :: rs, ρ, Q => fzp rs ρ fun ss ρ1 => Q (.pot :: ss) ρ1
  | r :: rs, ρ, Q => fz r ρ fun d ρ1 => fzp rs ρ1 fun ss ρ2 => Q (.im d :: ss) ρ2
/-- slots as handed over -/
inductive Handed (K : PySem.W.Frag) (pa : Pa) (G : Hp) : List V → List Sl → Prop
  | nil : Handed K pa G [] []
  | im {v : V} {vs : List V} {d : D} {ss : List Sl} : Rp K G v d → Handed K pa G vs ss → Handed K pa G (v :: vs) (.im d :: ss)
  | pot {v : V} {vs : List V} {ss : List Sl} : (∃ p, pa = some p ∧ v = .ref p.1) → Handed K pa G vs ss → Handed K pa G (v :: vs) (.pot :: ss)
theorem fzp_ok {c : Ct} {σ : L2.St} {H : Hp} : ∀ {rs : List R} {vs : List V} {G : Hp} {ρ : Rn} {Q : List Sl → Rn → Prop}, Rel c.K c.pa c.le G H σ ρ → RRs c.K c.pa G H σ ρ vs rs → fzp rs ρ Q →
    ∃ G' ss ρ', Nw c.K c.pa c.le G H σ ρ G' H σ ρ' ∧ Handed c.K c.pa G' vs ss ∧ Q ss ρ'
  | [], _, G, ρ, Q, rl, h, q => by
    cases h
    exact ⟨G, [], ρ, Nw.refl rl, .nil, q⟩
  | r :: rs, v0 :: _, G, ρ, Q, rl, h, q => by
    cases h with
    | cons h1 h2 =>
      have fr : ∀ x, Frs H σ ρ x r := fun x => by
        cases r with
        | tm ds => exact h1.1.elim
        | im d => trivial
        | sl i => trivial
        | pot => trivial
        | dead => trivial
      have go : (∃ p, c.pa = some p ∧ v0 = V.ref p.1) ∧ (fzp rs ρ fun ss ρ1 => Q (.pot :: ss) ρ1) ∨ (fz r ρ fun d ρ1 => fzp rs ρ1 fun ss ρ2 => Q (.im d :: ss) ρ2) := by
        cases r with
        | pot => exact .inl ⟨h1.2, q⟩
        | im d => exact .inr q
        | tm ds => exact .inr q
        | sl i => exact .inr q
        | dead => exact .inr q
      rcases go with ⟨hp, q⟩ | q
      · obtain ⟨G2, ss, ρ2, n2, h3, q2⟩ := fzp_ok rl h2 q
        exact ⟨G2, _, ρ2, n2, .pot hp h3, q2⟩
      · obtain ⟨G1, d, ρ1, s1, A1, O1, _, r1, hd, q1⟩ := fz_ok rl Aft.refl Ow.refl rl h1.2 (fr _) q
        have n1 : Nw c.K c.pa c.le G H σ ρ G1 H σ ρ1 := ⟨A1, O1, r1⟩
        obtain ⟨G2, ss, ρ2, n2, h3, q2⟩ := fzp_ok r1 (RRs.mono s1 h2) q1
        exact ⟨G2, _, ρ2, n1.trans rl n2, .im (Rp.mono n2.a.g _ _ hd) h3, q2⟩
theorem Handed.length {K : PySem.W.Frag} {pa : Pa} {G : Hp} : ∀ {vs : List V} {ss : List Sl}, Handed K pa G vs ss → vs.length = ss.length
  | _, _, .nil => rfl
  | _, _, .im _ t => by rw [List.length_cons, List.length_cons, Handed.length t]
  | _, _, .pot _ t => by rw [List.length_cons, List.length_cons, Handed.length t]
theorem Handed.get {K : PySem.W.Frag} {pa : Pa} {le : Le} {G H : Hp} : ∀ {vs : List V} {ss : List Sl} {i j : Nat} {s : Sl}, Handed K pa G vs ss → ss[i]? = some s → (∃ v, vs[i]? = some v ∧ SlR K pa le G H j (some v) s) ∧ ∀ l ds, s ≠ .own l ds
  | _, _, _, _, _, .nil, e => by simp at e
  | _, _, 0, j, s, .im h _, e => by
    simp at e; subst e
    exact ⟨⟨_, rfl, _, rfl, h⟩, fun l ds z => nomatch z⟩
  | _, _, 0, j, s, .pot h _, e => by
    simp at e; subst e
    obtain ⟨p, h1, h2⟩ := h
    exact ⟨⟨_, rfl, p, h1, by rw [h2]⟩, fun l ds z => nomatch z⟩
  | _, _, i + 1, j, s, .im _ t, e => by
    obtain ⟨⟨v, h1, h2⟩, h3⟩ := Handed.get (le := le) (H := H) (i := i) (j := j) (s := s) t (by simpa using e)
    exact ⟨⟨v, by simpa using h1, h2⟩, h3⟩
  | _, _, i + 1, j, s, .pot _ t, e => by
    obtain ⟨⟨v, h1, h2⟩, h3⟩ := Handed.get (le := le) (H := H) (i := i) (j := j) (s := s) t (by simpa using e)
    exact ⟨⟨v, by simpa using h1, h2⟩, h3⟩
theorem start_get {N : List Str} {vs : List V} {i : Nat} (h : i < N.length) (hl : vs.length ≤ N.length) : (L2.start N vs)[i]? = some (vs[i]?) := by
  unfold L2.start
  by_cases hi : i < vs.length
  · rw [List.getElem?_append_left (by rw [List.length_map]; exact hi), List.getElem?_map, List.getElem?_eq_getElem hi]
    rfl
  · rw [List.getElem?_append_right (by rw [List.length_map]; omega), List.length_map, List.getElem?_replicate, if_pos (by omega), List.getElem?_eq_none (by omega)]
theorem start_len {N : List Str} {vs : List V} (hl : vs.length ≤ N.length) : (L2.start N vs).length = N.length := by
  unfold L2.start
  rw [List.length_append, List.length_map, List.length_replicate]
  omega
/-- the relation at a def's entry -/
theorem rel_start {K : PySem.W.Frag} {pa : Pa} {le : Le} {G H : Hp} {σ : L2.St} {ρ : Rn} {N : List Str} {vs : List V} {ss : List Sl} (rl : Rel K pa le G H σ ρ) (h : Handed K pa G vs ss) (hl : vs.length ≤ N.length) (le' : Le) :
    Rel K pa le' G H (L2.start N vs) (ss ++ List.replicate (N.length - ss.length) .no) ∧ ∀ b, ¬ Own (L2.start N vs) (ss ++ List.replicate (N.length - ss.length) .no) b := by
  have hs := h.length
  have lk : ∀ i s, (ss ++ List.replicate (N.length - ss.length) Sl.no)[i]? = some s → i < N.length ∧ (ss[i]? = some s ∨ s = .no) := fun i s e => by
    have hi : i < (ss ++ List.replicate (N.length - ss.length) Sl.no).length := (List.getElem?_eq_some_iff.mp e).1
    rw [List.length_append, List.length_replicate] at hi
    refine ⟨by omega, ?_⟩
    by_cases h2 : i < ss.length
    · rw [List.getElem?_append_left h2] at e; exact .inl e
    · rw [List.getElem?_append_right (by omega), List.getElem?_replicate] at e
      split at e
      · exact .inr (Option.some.inj e).symm
      · cases e
  have nown : ∀ b, ¬ Own (L2.start N vs) (ss ++ List.replicate (N.length - ss.length) Sl.no) b := fun b ⟨i, l, ds, e1, _⟩ => by
    obtain ⟨_, z | z⟩ := lk i _ e1
    · exact (Handed.get (le := le) (H := H) (j := 0) h z).2 l ds rfl
    · cases z
  refine ⟨⟨rl.ext, by rw [start_len hl, List.length_append, List.length_replicate]; omega, fun i s e => ?_, fun i j l l' ds ds' a e1 _ _ _ => ?_, rl.pot, fun b hb => (nown b hb).elim⟩, nown⟩
  · obtain ⟨hi, z | z⟩ := lk i s e
    · obtain ⟨⟨v, h1, h2⟩, _⟩ := Handed.get (le := le') (H := H) (j := i) h z
      exact ⟨_, start_get hi hl, by rw [h1]; exact h2⟩
    · subst z
      exact ⟨_, start_get hi hl, trivial⟩
  · obtain ⟨_, z | z⟩ := lk i _ e1
    · exact absurd rfl ((Handed.get (le := le) (H := H) (j := 0) h z).2 l ds)
    · cases z
/-- behind a callee that owned nothing at its entry -/
theorem nw_back {K : PySem.W.Frag} {pa : Pa} {le le' : Le} {G H G1 H1 : Hp} {σ σc σ' : L2.St} {ρ ρc ρ' : Rn} (rl : Rel K pa le G H σ ρ) (no : ∀ b, ¬ Own σc ρc b) (n : Nw K pa le' G H σc ρc G1 H1 σ' ρ') : Nw K pa le G H σ ρ G1 H1 σ ρ := by
  have keepO : ∀ b, Own σ ρ b → G1 b = none := fun b hb => by
    obtain ⟨h1, h2⟩ := rl.owT hb
    cases e : G1 b with
    | none => rfl
    | some o =>
      rcases n.a.f b (by rw [e]; simp) with z | z | z
      · exact absurd h2 z
      · exact absurd z h1
      · exact (no b z).elim
  refine ⟨⟨n.a.g, fun b o e n1 n2 => n.a.h b o e (no b) n2, fun b hb => ?_, n.a.p⟩, Ow.refl, ⟨n.r.ext, rl.len, fun i s e => ?_, rl.dis, n.r.pot, rl.sep⟩⟩
  · rcases n.a.f b hb with z | z | z
    · exact .inl z
    · exact .inr (.inl z)
    · exact (no b z).elim
  · obtain ⟨ov, z1, z2⟩ := rl.sl i s e
    refine ⟨ov, z1, ?_⟩
    cases s with
    | no => trivial
    | im d =>
      obtain ⟨x, z3, z4⟩ := z2
      exact ⟨x, z3, Rp.mono n.a.g _ _ z4⟩
    | own l ds =>
      obtain ⟨a, vs, z3, z4, z5, z6, z7⟩ := z2
      have ho : Own σ ρ a := ⟨i, l, ds, e, by rw [z1, z3]⟩
      exact ⟨a, vs, z3, keepO a ho, n.a.h a _ z5 (no a) (rl.sep a ho), z6.mono n.a.g, z7⟩
    | pot => exact z2

def wCall (n : Nat) (w : WS) (ws : WA) : WE := fun ρ Qd Qx => ws ρ (fun rs ρ1 => fzp rs ρ1 fun ss ρ2 => fnW n w ss (fun r _ => Qd r ρ2) fun _ => False) Qx
/-- .. of a def that may raise -/
def wCallX (n : Nat) (w : WS) (ws : WA) : WE := fun ρ Qd Qx => ws ρ (fun rs ρ1 => fzp rs ρ1 fun ss ρ2 => fnW n w ss (fun r _ => Qd r ρ2) Qx) Qx

/-- the promise at a call, from the caller's state: Ec what is wanted of what the callee raises -/
theorem sp_call {c : Ct} {N : List Str} {np : Nat} {w : WS} {G H : Hp} {σ : L2.St} {ρ : Rn} {vs : List V} {rs : List R} {Qd : R → Rn → Prop} {Qc : Xn → Prop} {Q : VK} {Ec : XK} (hnp : np ≤ N.length) (rl : Rel c.K c.pa c.le G H σ ρ) (rr : RRs c.K c.pa G H σ ρ vs rs) (hl : rs.length = np)
    (q : fzp rs ρ fun ss ρ2 => fnW N.length w ss (fun r _ => Qd r ρ2) Qc) (hQ : Got c G H σ ρ Qd Q) (hE : ∀ x cls d G' H', Aft c.pa G H σ ρ G' H' → Same G' H' → PotK c.pa G' H' → XR c.K c.mg G' x cls d → Qc x → Ec cls d H') :
    spT c.K c.mg N np w vs H Q Ec := by
  obtain ⟨G1, ss, ρ2, n1, hh, q1⟩ := fzp_ok rl rr q
  have hlv : vs.length = np := by rw [Paired.len' rr, hl]
  have hle : vs.length ≤ N.length := by rw [hlv]; exact hnp
  obtain ⟨rs', nown⟩ := rel_start (N := N) n1.r hh hle fun _ => none
  have cont : ∀ v r σ' ρ' G' H', Nw c.K c.pa (fun _ => none) G1 H (L2.start N vs) (ss ++ List.replicate (N.length - ss.length) .no) G' H' σ' ρ' → RR c.K c.pa G' H' σ' ρ' v r → Frs H (L2.start N vs) (ss ++ List.replicate (N.length - ss.length) .no) v r → (∀ i, r ≠ .sl i) → Qd r ρ2 → Q v H' :=
    fun v r σ' ρ' G' H' n2 rr2 fr2 hns q2 => by
      have nb := nw_back n1.r nown n2
      refine hQ v r ρ2 G' H' (n1.trans rl nb) ?_ ?_ q2
      · cases r with
        | im d => exact rr2
        | pot => exact rr2
        | sl i => exact (hns i rfl).elim
        | dead => trivial
        | tm ds =>
          obtain ⟨a, us, rfl, g, hh2, ra, _, np2⟩ := rr2
          refine ⟨a, us, rfl, g, hh2, ra, fun z => ?_, np2⟩
          rcases fr2 a rfl with y | y
          · exact (n1.r.owT z).1 y
          · exact nown a y
      · cases r with
        | dead => trivial
        | tm ds =>
          intro a e
          rcases fr2 a e with y | y
          · exact .inl y
          · exact (nown a y).elim
        | im d => trivial
        | pot => trivial
        | sl i => trivial
  refine ⟨hlv, c.pa, fun _ => none, G1, _, _, rs', q1.run, fun σ' ρ' G' H' n2 q2 => ?_, fun v r σ' ρ' G' H' n2 rr2 fr2 q2 => ?_, fun _ _ _ _ _ z => z.elim, fun _ _ _ _ _ z => z.elim, fun x cls d G' H' A s pk xr qx => ?_⟩
  · exact cont .non (.im .none) σ' ρ' G' H' n2 .non trivial (fun i z => nomatch z) q2
  · cases r with
    | sl i => exact q2.elim
    | im d => exact cont v _ σ' ρ' G' H' n2 rr2 fr2 (fun i z => nomatch z) q2
    | tm ds => exact cont v _ σ' ρ' G' H' n2 rr2 fr2 (fun i z => nomatch z) q2
    | dead => exact cont v _ σ' ρ' G' H' n2 rr2 fr2 (fun i z => nomatch z) q2
    | pot => exact cont v _ σ' ρ' G' H' n2 rr2 fr2 (fun i z => nomatch z) q2
  · refine hE x cls d G' H' (n1.a.trans rl n1.r n1.o ⟨A.g, fun b o e n1 n2 => A.h b o e (nown b) n2, fun b hb => ?_, A.p⟩) s pk xr qx
    rcases A.f b hb with z | z | z
    · exact .inl z
    · exact .inr (.inl z)
    · exact (nown b z).elim
theorem wA_len : True := trivial

section
variable {X : Cx} {c : Ct} {k : Nat} {f : Addr} {fd : FuncData} {N ps ks : List Str} {w : WS} {x : Str} {p pos : Pos} {e : Expr} {es : List Expr} {ws : WA}
/-- as many results as arguments -/
def lenA (n : Nat) (ws : WA) : WA := fun ρ Qd Qx => ws ρ (fun rs ρ1 => rs.length = n ∧ Qd rs ρ1) Qx
def wCallL (n np : Nat) (w : WS) (ws : WA) : WE := wCall n w (lenA np ws)
theorem d_call {ds : List Value} {dvs : List V} (hK : X.K = c.K) (hM : X.mg = c.mg) (F : FnG X.prog X.w X.K X.mg X.base CX0 k f fd ps (spT X.K X.mg N ps.length w)) (hnp : ps.length ≤ N.length) (hr : Rm k X.A) (hg : Gl X x) (hm : X.mg x = some (.ref f)) (hk : PySem.W.keepIn X.K (.ref f) = true) (hb : Binds X.K fd ps [])
    (ha : DA X c (e :: es) ws) (hdb : (x == ("__debug__" : Str)) = false := by decide) (he : starEach (e :: es) X.env = (false, eval e X.env) :: starEach es X.env := by rfl) (hpl : (backTo pos (starEach es X.env)).any (·.1) = false := by rfl) :
    DE X c (.Call (.Name x p) (e :: es) [] pos) (wCallL N.length ps.length w ws) := by
  refine PEw (pe_callG F hr hg hm hk hb .nil (E := E0) pass0 ha hdb he hpl) fun σ H Q ⟨G, ρ, Qd, Qx, rl, hw, hQ, hX⟩ => ?_
  refine ⟨G, ρ, _, Qx, rl, hw, fun vs rs ρ1 G1 H1 n1 rr q => ?_, hX⟩
  obtain ⟨hl, q⟩ := q
  rw [List.append_nil, hK, hM]
  exact sp_call hnp n1.r rr hl q (fun v r ρ' G' H' n2 rr2 fr2 q2 => hQ v r ρ' G' H' (n1.trans rl n2) rr2 (fr2.trans n1) q2) fun _ _ _ _ _ _ _ _ _ z => z.elim
end
end Tr

namespace Tr
open PySem L2

section
variable {K : PySem.W.Frag} {pa : Pa} {le : Le} {G H G0 H0 G1 H1 G2 H2 : Hp} {σ σ0 σ1 σ2 : L2.St} {ρ ρ0 ρ1 ρ2 : Rn}
/-- a new object that is not known -/
theorem Nw.new_any {p : Addr} {o : HO} (rl : Rel K pa le G H σ ρ) (n : H p = none) : Nw K pa le G H σ ρ G (upd H p o) σ ρ := by
  have gn : G p = none := by
    cases e : G p with
    | none => rfl
    | some o => rw [rl.ext p o e] at n; cases n
  have nown : ∀ b, Own σ ρ b → b ≠ p := fun b hb z => by subst z; exact (rl.owT hb).1 n
  have npot : ∀ b, PotAt pa b → b ≠ p := fun b hb z => by subst z; exact (rl.potT hb).1 n
  refine ⟨⟨Same.refl G, fun b o e _ _ => by rw [upd_ne (ne_of_none e n)]; exact e, fun b hb => .inl hb, fun b hb => ?_⟩, Ow.refl, ⟨fun b o e => ?_, rl.len, fun i s e => ?_, rl.dis, fun q e => ?_, rl.sep⟩⟩
  · by_cases hbp : b = p
    · rw [hbp]; exact n
    · rw [upd_ne hbp] at hb; exact hb
  · rw [upd_ne (ne_of_none e gn)]; exact rl.ext b o e
  · obtain ⟨ov, e1, e2⟩ := rl.sl i s e
    refine ⟨ov, e1, ?_⟩
    cases s with
    | no => trivial
    | im d => exact e2
    | own l ds =>
      obtain ⟨b, xs, e3, e4, e5, e6, e7⟩ := e2
      have hne : b ≠ p := nown b ⟨i, l, ds, e, by rw [e1, e3]⟩
      exact ⟨b, xs, e3, e4, by rw [upd_ne hne]; exact e5, e6, e7⟩
    | pot => exact e2
  · obtain ⟨q0, g1, g2⟩ := rl.pot q e
    have h1 : q.1 ≠ p := npot q.1 ⟨q, e, .inl rfl⟩
    have h2 : q.2 ≠ p := npot q.2 ⟨q, e, .inr rfl⟩
    exact ⟨q0.upd h1 h2, g1, g2⟩
end

/-! ### what is walked -/
abbrev WI := Rn → (List D → Rn → Prop) → (Xn → Prop) → Prop
/-- an iterator that yields these data; pr: in new pairs -/
def Wk (pr : Bool) (K : PySem.W.Frag) (J : It) (ds : List D) (G : Hp) : Prop := ∀ G1 H1, Same G G1 → Same G1 H1 → ∀ i : Nat,
  (∀ d, ds[i]? = some d → J.go i H1 ∧ ∀ x H2, J.yld i H1 x H2 → (H2 = H1 ∧ Rp K G1 x d) ∨ (pr = true ∧ ∃ (T : Addr) (xs : List V) (es : List D), H1 T = none ∧ H2 = upd H1 T (.tup xs) ∧ x = .ref T ∧ d = .tuple es ∧ RpAll K G1 xs es)) ∧ (ds.length = i → J.stop i H1)
def LI (pr : Bool) (c : Ct) (w : WI) : TI := fun σ H R => ∃ G ρ Qd Qx, Rel c.K c.pa c.le G H σ ρ ∧ w ρ Qd Qx ∧
  (∀ ds ρ' G' H' J, Nw c.K c.pa c.le G H σ ρ G' H' σ ρ' → Wk pr c.K J ds G' → Qd ds ρ' → R J H') ∧ LX c G H σ ρ Qx
abbrev DI (pr : Bool) (X : Cx) (c : Ct) (tg it : Expr) (w : WI) : Prop := PI X tg it (LI pr c w)
theorem PIw {X : Cx} {tg it : Expr} {t t' : TI} (h : PI X tg it t) (i : ∀ σ H R, t' σ H R → t σ H R) : PI X tg it t' := ⟨fun pins s σ H R I hq => h.run pins s σ H R I (i σ H R hq)⟩

/-- what a turn yields -/
def Yl (pr : Bool) (K : PySem.W.Frag) (G H : Hp) (v : V) (d : D) : Prop := Rp K G v d ∨ (pr = true ∧ ∃ (T : Addr) (xs : List V) (es : List D), v = .ref T ∧ d = .tuple es ∧ SqT K H T xs ∧ RpAll K G xs es)
def LGy (pr : Bool) (c : Ct) (w : WG) : TG := fun v σ H Q => ∃ G ρ d Qd Qx, Rel c.K c.pa c.le G H σ ρ ∧ Yl pr c.K G H v d ∧ w d ρ Qd Qx ∧ (∀ σ' ρ' G' H', Nw c.K c.pa c.le G H σ ρ G' H' σ' ρ' → Qd ρ' → Q σ' H') ∧ LX c G H σ ρ Qx
abbrev DGy (pr : Bool) (X : Cx) (c : Ct) (t : Expr) (w : WG) : Prop := PG X t (LGy pr c w)
section
variable {X : Cx} {c : Ct} {e a b tg it : Expr} {es : List Expr} {pr : Bool}
theorem d_gy {w : WG} (h : DG X c tg w) : DGy false X c tg w := PGw h fun v σ H Q ⟨G, ρ, d, Qd, Qx, rl, hd, hw, hQ, hX⟩ => by
  rcases hd with hd | ⟨z, _⟩
  · exact ⟨G, ρ, d, Qd, Qx, rl, hd, hw, hQ, hX⟩
  · cases z
theorem d_gTy {k : Nat} {gs : WGs} {n : Nat} {pos : Pos} (hK : X.K = c.K) (hc : X.calm = true) (h : DGs X c es gs) (hn : (assignEach es X.env).length = n := by rfl) (hst : (assignEach es X.env).findIdx? (·.1) = none := by rfl) : DGy pr X c (.Tuple es k pos) (wgT n gs) :=
  PGw (pg_tup hc h hn hst) fun v σ H Q ⟨G, ρ, d, Qd, Qx, rl, hd, hw, hQ, hX⟩ => by
    cases d with
    | tuple ds =>
      obtain ⟨hl, hw⟩ := hw
      rw [hK]
      rcases hd with hd | ⟨_, T, xs, es', rfl, e2, e3, e4⟩
      · cases hd with
        | tup h1 h2 => exact ⟨_, _, rfl, (h1.mono rl.ext).sq, by rw [RpAll.length h2]; exact hl, G, ρ, ds, Qd, Qx, rl, h2, hw, hQ, hX⟩
      · cases e2
        exact ⟨_, _, rfl, e3, by rw [RpAll.length e4]; exact hl, G, ρ, ds, Qd, Qx, rl, e4, hw, hQ, hX⟩
    | _ => exact hw.elim

/-- the loop over data -/
def wLoop (g : WG) (tb : WS) : List D → WS
  | [], P, ρ => P.nx ρ
  | d :: ds, P, ρ => g d ρ (fun ρ1 => tb { P with nx := wLoop g tb ds P, ct := wLoop g tb ds P, bk := P.nx } ρ1) P.ex
structure LoopW (g : WG) (tb : WS) (ds : List D) (P : Po) (ρ : Rn) : Prop where
  run : wLoop g tb ds P ρ
def wFor (wi : WI) (g : WG) (tb : WS) : WS := fun P ρ => wi ρ (fun ds ρ1 => LoopW g tb ds P ρ1) P.ex
/-- a turn's value -/
theorem yld_ok {G G1 H1 H2 : Hp} {σ : L2.St} {ρ : Rn} {J : It} {ds : List D} {d : D} {i : Nat} {x : V} (hW : Wk pr c.K J ds G) (s1 : Same G G1) (rl : Rel c.K c.pa c.le G1 H1 σ ρ) (hd : ds[i]? = some d) (hy : J.yld i H1 x H2) :
    Nw c.K c.pa c.le G1 H1 σ ρ G1 H2 σ ρ ∧ Yl pr c.K G1 H2 x d := by
  rcases ((hW G1 H1 s1 rl.ext i).1 d hd).2 x H2 hy with ⟨rfl, h⟩ | ⟨hp, T, xs, es, h1, rfl, rfl, rfl, h2⟩
  · exact ⟨Nw.refl rl, .inl h⟩
  · exact ⟨Nw.new_any rl h1, .inr ⟨hp, T, xs, es, rfl, rfl, SqT.of upd_same, h2⟩⟩
theorem d_for {wi : WI} {g : WG} {tb : WS} {body : List Stmt} {pos : Pos} (hp : PassesOwn (model X.prog X.w) X.A X.env X.xe) (hc : X.calm = true) (hi : DI pr X c tg it wi) (hg : DGy pr X c tg g) (hb : DSs X c body tb)
    (hs : ∀ x, foldedSetIterable it X.env x = pure x := by intro _; rfl) : DS X c (.For tg it body [] pos) (wFor wi g tb) := by
  refine PSw (ps_for hp hc hi hg hb hs) fun D σ H ⟨G, ρ, P, rl, hw, h1, h2, h3, h4, h5⟩ => ?_
  refine ⟨G, ρ, _, P.ex, rl, hw, fun ds ρ1 G1 H1 J n1 hW q => ?_, h5⟩
  have k1 : ∀ σ' ρ' G' H', Nw c.K c.pa c.le G1 H1 σ ρ1 G' H' σ' ρ' → P.nx ρ' → D.nx σ' H' := fun σ' ρ' G' H' n => h1 σ' ρ' G' H' (n1.trans rl n)
  have k2 : ∀ v r σ' ρ' G' H', Nw c.K c.pa c.le G1 H1 σ ρ1 G' H' σ' ρ' → RR c.K c.pa G' H' σ' ρ' v r → Frs H1 σ ρ1 v r → P.rt r ρ' → D.rt v H' := fun v r σ' ρ' G' H' n rr fr => h2 v r σ' ρ' G' H' (n1.trans rl n) rr (fr.trans n1)
  have k5 := h5.trans rl n1
  refine ⟨fun i m σ' H' => m = ds.length - i ∧ i ≤ ds.length ∧ ∃ G' ρ', Nw c.K c.pa c.le G1 H1 σ ρ1 G' H' σ' ρ' ∧ wLoop g tb (ds.drop i) P ρ', ⟨_, rfl, Nat.zero_le _, G1, ρ1, Nw.refl n1.r, q.run⟩, ?_⟩
  rintro i m σ' H' ⟨rfl, hil, G', ρ', n2, q2⟩
  by_cases hlt : i < ds.length
  · have hd : ds[i]? = some ds[i] := List.getElem?_eq_getElem hlt
    rw [List.drop_eq_getElem_cons hlt] at q2
    refine .inr ⟨((hW G' H' n2.a.g n2.r.ext i).1 _ hd).1, fun σ3 H3 => ∃ G3 ρ3, Nw c.K c.pa c.le G1 H1 σ ρ1 G3 H3 σ3 ρ3 ∧ wLoop g tb (ds.drop (i + 1)) P ρ3, fun σ3 H3 ⟨G3, ρ3, n3, q3⟩ => ⟨ds.length - (i + 1), by omega, rfl, hlt, G3, ρ3, n3, q3⟩, fun x H4 hy => ?_⟩
    obtain ⟨n4, y4⟩ := yld_ok hW n2.a.g n2.r hd hy
    have n5 := n2.trans n1.r n4
    refine ⟨G', ρ', ds[i], _, P.ex, n4.r, y4, q2, fun σ6 ρ6 G6 H6 n6 q6 => ?_, k5.trans n1.r n5⟩
    have n7 := n5.trans n1.r n6
    exact LS.at_ (P := { P with nx := wLoop g tb (ds.drop (i + 1)) P, ct := wLoop g tb (ds.drop (i + 1)) P, bk := P.nx }) n1.r n7 q6 (fun σ8 ρ8 G8 H8 n8 q8 => ⟨G8, ρ8, n8, q8⟩) k2 k1 (fun σ8 ρ8 G8 H8 n8 q8 => ⟨G8, ρ8, n8, q8⟩) k5
  · have e : i = ds.length := by omega
    subst e
    rw [List.drop_length] at q2
    exact .inl ⟨(hW G' H' n2.a.g n2.r.ext _).2 rfl, k1 σ' ρ' G' H' n2 q2⟩

/-! ### while -/
def wWh (t : WT) (tb : WS) : Nat → WS
  | 0, _, _ => False
  | n + 1, P, ρ => t ρ (fun k ρ1 => IfW k (tb { P with nx := wWh t tb n P, ct := wWh t tb n P, bk := P.nx } ρ1) (P.nx ρ1)) P.ex
def wWhile (t : WT) (tb : WS) : WS := fun P ρ => ∃ n, wWh t tb n P ρ
theorem d_while {t : WT} {tb : WS} {body : List Stmt} {pos : Pos} (hp : PassesOwn (model X.prog X.w) X.A X.env X.xe) (ht : DT X c e t) (hb : DSs X c body tb) : DS X c (.While e body [] pos) (wWhile t tb) := by
  refine PSw (ps_while hp ht hb) fun D σ H ⟨G, ρ, P, rl, ⟨n0, hw⟩, h1, h2, h3, h4, h5⟩ => ?_
  refine ⟨fun m σ' H' => ∃ G' ρ', Nw c.K c.pa c.le G H σ ρ G' H' σ' ρ' ∧ wWh t tb m P ρ', ⟨n0, G, ρ, Nw.refl rl, hw⟩, ?_⟩
  rintro m σ' H' ⟨G', ρ', n2, q2⟩
  cases m with
  | zero => exact q2.elim
  | succ m =>
    refine ⟨G', ρ', _, P.ex, n2.r, q2, fun k ρ3 G3 H3 n3 q3 => ?_, h5.trans rl n2⟩
    have n4 := n2.trans rl n3
    cases k with
    | true =>
      have q3 := q3.t rfl
      refine ⟨fun σ5 H5 => ∃ G5 ρ5, Nw c.K c.pa c.le G H σ ρ G5 H5 σ5 ρ5 ∧ wWh t tb m P ρ5, fun σ5 H5 h => ⟨m, Nat.lt_succ_self m, h⟩, ?_⟩
      exact LS.at_ (P := { P with nx := wWh t tb m P, ct := wWh t tb m P, bk := P.nx }) rl n4 q3 (fun σ8 ρ8 G8 H8 n8 q8 => ⟨G8, ρ8, n8, q8⟩) h2 h1 (fun σ8 ρ8 G8 H8 n8 q8 => ⟨G8, ρ8, n8, q8⟩) h5
    | false => exact h1 σ' ρ3 G3 H3 n4 (q3.f rfl)

/-! ### list comprehensions -/
def wipeR : List Nat → Rn → Rn
  | [], ρ => ρ
  | v :: vs, ρ => (wipeR vs ρ).set v .no
def resR (ρ0 : Rn) : List Nat → Rn → Rn
  | [], ρ => ρ
  | v :: vs, ρ => match ρ0[v]? with
    | some s => (resR ρ0 vs ρ).set v s
    | none => resR ρ0 vs ρ
end
section
variable {K : PySem.W.Frag} {pa : Pa} {le : Le} {G H G1 H1 : Hp} {σ : L2.St} {ρ : Rn}
theorem wipeR_len : ∀ (vs : List Nat) (ρ : Rn), (wipeR vs ρ).length = ρ.length
  | [], _ => rfl
  | v :: vs, ρ => by unfold wipeR; rw [List.length_set, wipeR_len vs ρ]
theorem wipeR_get : ∀ {vs : List Nat} {ρ : Rn} {i : Nat} {s : Sl}, (wipeR vs ρ)[i]? = some s → (s = .no ∧ i ∈ vs) ∨ (i ∉ vs ∧ ρ[i]? = some s)
  | [], _, _, _, h => .inr ⟨by simp, h⟩
  | v :: vs, ρ, i, s, h => by
    unfold wipeR at h
    by_cases hi : v = i
    · subst hi
      by_cases hv : v < (wipeR vs ρ).length
      · rw [List.getElem?_set_self hv] at h; cases h; exact .inl ⟨rfl, List.mem_cons_self⟩
      · rw [List.getElem?_eq_none (by simpa using hv)] at h; cases h
    · rw [List.getElem?_set_ne hi] at h
      rcases wipeR_get h with ⟨h1, h2⟩ | ⟨h1, h2⟩
      · exact .inl ⟨h1, List.mem_cons_of_mem _ h2⟩
      · exact .inr ⟨by simp only [List.mem_cons, not_or]; exact ⟨fun e => hi e.symm, h1⟩, h2⟩
theorem resR_len (ρ0 : Rn) : ∀ (vs : List Nat) (ρ : Rn), (resR ρ0 vs ρ).length = ρ.length
  | [], _ => rfl
  | v :: vs, ρ => by
    unfold resR
    cases ρ0[v]? with
    | none => exact resR_len ρ0 vs ρ
    | some s => show ((resR ρ0 vs ρ).set v s).length = _; rw [List.length_set, resR_len ρ0 vs ρ]
theorem resR_get (ρ0 : Rn) : ∀ {vs : List Nat} {ρ : Rn} {i : Nat} {s : Sl}, ρ.length = ρ0.length → (resR ρ0 vs ρ)[i]? = some s → (i ∈ vs ∧ ρ0[i]? = some s) ∨ (i ∉ vs ∧ ρ[i]? = some s)
  | [], _, _, _, _, h => .inr ⟨by simp, h⟩
  | v :: vs, ρ, i, s, hl, h => by
    unfold resR at h
    cases e : ρ0[v]? with
    | none =>
      rw [e] at h
      rcases resR_get ρ0 hl h with ⟨h1, h2⟩ | ⟨h1, h2⟩
      · exact .inl ⟨List.mem_cons_of_mem _ h1, h2⟩
      · refine .inr ⟨fun z => ?_, h2⟩
        rcases List.mem_cons.mp z with rfl | z
        · have h3 := (List.getElem?_eq_some_iff.mp h2).1
          rw [hl] at h3
          rw [List.getElem?_eq_getElem h3] at e; cases e
        · exact h1 z
    | some t =>
      rw [e] at h
      have h : ((resR ρ0 vs ρ).set v t)[i]? = some s := h
      by_cases hi : v = i
      · subst hi
        have hv : v < (resR ρ0 vs ρ).length := by rw [resR_len, hl]; exact (List.getElem?_eq_some_iff.mp e).1
        rw [List.getElem?_set_self hv] at h; cases h
        exact .inl ⟨List.mem_cons_self, e⟩
      · rw [List.getElem?_set_ne hi] at h
        rcases resR_get ρ0 hl h with ⟨h1, h2⟩ | ⟨h1, h2⟩
        · exact .inl ⟨List.mem_cons_of_mem _ h1, h2⟩
        · exact .inr ⟨by simp only [List.mem_cons, not_or]; exact ⟨fun e => hi e.symm, h1⟩, h2⟩
theorem wipe_ne : ∀ {vs : List Nat} {σ : L2.St} {i : Nat}, i ∉ vs → (wipe σ vs)[i]? = σ[i]?
  | [], _, _, _ => rfl
  | v :: vs, σ, i, h => by
    simp only [List.mem_cons, not_or] at h
    unfold wipe
    rw [List.getElem?_set_ne (fun e => h.1 e.symm)]
    exact wipe_ne h.2
/-- the block's own slots forgotten -/
theorem rel_wipe (vs : List Nat) (rl : Rel K pa le G H σ ρ) : Rel K pa le G H (wipe σ vs) (wipeR vs ρ) ∧ ∀ b, Own (wipe σ vs) (wipeR vs ρ) b → Own σ ρ b := by
  have own : ∀ b, Own (wipe σ vs) (wipeR vs ρ) b → Own σ ρ b := fun b ⟨i, l, ds, e1, e2⟩ => by
    rcases wipeR_get e1 with ⟨z, _⟩ | ⟨z1, z2⟩
    · cases z
    · rw [wipe_ne z1] at e2
      exact ⟨i, l, ds, z2, e2⟩
  refine ⟨⟨rl.ext, by rw [wipeR_len, wipe_length]; exact rl.len, fun i s e => ?_, fun i j l l' ds ds' a e1 e2 e3 e4 => ?_, rl.pot, fun b hb => rl.sep b (own b hb)⟩, own⟩
  · rcases wipeR_get e with ⟨rfl, z⟩ | ⟨z1, z2⟩
    · have hi := (List.getElem?_eq_some_iff.mp e).1
      rw [wipeR_len, rl.len, ← wipe_length σ vs] at hi
      exact ⟨_, List.getElem?_eq_getElem hi, trivial⟩
    · rw [wipe_ne z1]
      exact rl.sl i s z2
  · rcases wipeR_get e1 with ⟨z, _⟩ | ⟨z1, z2⟩
    · cases z
    · rcases wipeR_get e2 with ⟨z, _⟩ | ⟨w1, w2⟩
      · cases z
      · rw [wipe_ne z1] at e3
        rw [wipe_ne w1] at e4
        exact rl.dis i j l l' ds ds' a z2 w2 e3 e4
/-- behind the block -/
theorem comp_back {ρe : Rn} {vs : List Nat} (rl : Rel K pa le G H σ ρ) (n : Nw K pa le G H (wipe σ vs) (wipeR vs ρ) G1 H1 (wipe σ vs) ρe) : Nw K pa le G H σ ρ G1 H1 σ (resR ρ vs ρe) ∧ ∀ b, Own σ (resR ρ vs ρe) b → Own σ ρ b ∨ Own (wipe σ vs) ρe b := by
  obtain ⟨rw_, ow_⟩ := rel_wipe vs rl
  have hlen : ρe.length = ρ.length := by rw [n.r.len, wipe_length, rl.len]
  -- a list that a wiped slot owns
  have no : ∀ i l ds a, i ∈ vs → ρ[i]? = some (Sl.own l ds) → σ[i]? = some (some (V.ref a)) → ¬ Own (wipe σ vs) (wipeR vs ρ) a := fun i l ds a hi e1 e2 ⟨j, l', es, e3, e4⟩ => by
    rcases wipeR_get e3 with ⟨z, _⟩ | ⟨z1, z2⟩
    · cases z
    · rw [wipe_ne z1] at e4
      have := rl.dis i j l l' ds es a e1 z2 e2 e4
      subst this
      exact z1 hi
  have noe : ∀ i l ds a, i ∈ vs → ρ[i]? = some (Sl.own l ds) → σ[i]? = some (some (V.ref a)) → ¬ Own (wipe σ vs) ρe a := fun i l ds a hi e1 e2 h => by
    rcases n.o a h with z | z
    · exact no i l ds a hi e1 e2 z
    · exact (rl.owT ⟨i, l, ds, e1, e2⟩).1 z
  have own : ∀ b, Own σ (resR ρ vs ρe) b → (∃ i l ds, i ∈ vs ∧ ρ[i]? = some (Sl.own l ds) ∧ σ[i]? = some (some (V.ref b))) ∨ Own (wipe σ vs) ρe b := fun b ⟨i, l, ds, e1, e2⟩ => by
    rcases resR_get ρ hlen e1 with ⟨z1, z2⟩ | ⟨z1, z2⟩
    · exact .inl ⟨i, l, ds, z1, z2, e2⟩
    · exact .inr ⟨i, l, ds, z2, by rw [wipe_ne z1]; exact e2⟩
  refine ⟨?_, fun b hb => by
    rcases own b hb with ⟨i, l, ds, _, e1, e2⟩ | z
    · exact .inl ⟨i, l, ds, e1, e2⟩
    · exact .inr z⟩
  refine ⟨⟨n.a.g, fun b o e n1 n2 => n.a.h b o e (fun z => n1 (ow_ b z)) n2, fun b hb => ?_, n.a.p⟩, fun b hb => ?_, ⟨n.r.ext, by rw [resR_len, hlen]; exact rl.len, fun i s e => ?_, fun i j l l' ds ds' a e1 e2 e3 e4 => ?_, n.r.pot, fun b hb => ?_⟩⟩
  · rcases n.a.f b hb with z | z | z
    · exact .inl z
    · exact .inr (.inl z)
    · exact .inr (.inr (ow_ b z))
  · rcases own b hb with ⟨i, l, ds, _, e1, e2⟩ | z
    · exact .inl ⟨i, l, ds, e1, e2⟩
    · rcases n.o b z with y | y
      · exact .inl (ow_ b y)
      · exact .inr y
  · rcases resR_get ρ hlen e with ⟨z1, z2⟩ | ⟨z1, z2⟩
    · obtain ⟨ov, y1, y2⟩ := rl.sl i s z2
      refine ⟨ov, y1, ?_⟩
      cases s with
      | no => trivial
      | im d =>
        obtain ⟨x, y3, y4⟩ := y2
        exact ⟨x, y3, Rp.mono n.a.g _ _ y4⟩
      | own l ds =>
        obtain ⟨a, ws, y3, y4, y5, y6, y7⟩ := y2
        have e2 : σ[i]? = some (some (V.ref a)) := by rw [y1, y3]
        have nn := no i l ds a z1 z2 e2
        have np := rl.sep a ⟨i, l, ds, z2, e2⟩
        refine ⟨a, ws, y3, ?_, n.a.h a _ y5 nn np, y6.mono n.a.g, y7⟩
        cases eg : G1 a with
        | none => rfl
        | some o =>
          rcases n.a.f a (by rw [eg]; simp) with z | z | z
          · exact absurd y4 z
          · rw [z] at y5; cases y5
          · exact (nn z).elim
      | pot => exact y2
    · obtain ⟨ov, y1, y2⟩ := n.r.sl i s z2
      rw [wipe_ne z1] at y1
      exact ⟨ov, y1, y2⟩
  · rcases resR_get ρ hlen e1 with ⟨z1, z2⟩ | ⟨z1, z2⟩
    · rcases resR_get ρ hlen e2 with ⟨w1, w2⟩ | ⟨w1, w2⟩
      · exact rl.dis i j l l' ds ds' a z2 w2 e3 e4
      · exact (noe i l ds a z1 z2 e3 ⟨j, l', ds', w2, by rw [wipe_ne w1]; exact e4⟩).elim
    · rcases resR_get ρ hlen e2 with ⟨w1, w2⟩ | ⟨w1, w2⟩
      · exact (noe j l' ds' a w1 w2 e4 ⟨i, l, ds, z2, by rw [wipe_ne z1]; exact e3⟩).elim
      · exact n.r.dis i j l l' ds ds' a z2 w2 (by rw [wipe_ne z1]; exact e3) (by rw [wipe_ne w1]; exact e4)
  · rcases own b hb with ⟨i, l, ds, _, e1, e2⟩ | z
    · exact rl.sep b ⟨i, l, ds, e1, e2⟩
    · exact n.r.sep b z
end
section
variable {X : Cx} {c : Ct} {e a b tg it : Expr} {es : List Expr} {pr : Bool}
/-- within a comprehension nothing may be raised -/
abbrev Ct.in_ (c : Ct) : Ct := { c with E := E0 }
abbrev DTs (X : Cx) (c : Ct) (ifs : List Expr) (w : WT) : Prop := PTs X ifs (LT c w)
theorem PTsw {ifs : List Expr} {t t' : TT} (h : PTs X ifs t) (i : ∀ σ H Q, t' σ H Q → t σ H Q) : PTs X ifs t' := ⟨fun pins s σ H Q I hq => h.run pins s σ H Q I (i σ H Q hq)⟩
def wYes : WT := fun ρ Qd _ => Qd true ρ
theorem d_tsN : DTs X c [] wYes := PTsw pts_nil fun σ H Q ⟨G, ρ, Qd, Qx, rl, hw, hQ, hX⟩ => hQ true ρ G H (Nw.refl rl) hw
theorem d_ts1 {t : WT} (h : DT X c e t) : DTs X c [e] t := pts_one h
def wCmp (vs : List Nat) (g : WG) (t : WT) (we : WE) : List D → List D → Rn → (List D → Rn → Prop) → Prop
  | [], acc, ρ, Q => Q acc ρ
  | d :: ds, acc, ρ, Q => g d (wipeR vs ρ) (fun ρ1 => t ρ1 (fun k ρ2 => IfW k (we ρ2 (fun r ρ3 => fz r ρ3 fun y ρ4 => acc.length < 100000 ∧ wCmp vs g t we ds (acc ++ [y]) ρ4 Q) (fun _ => False)) (wCmp vs g t we ds acc ρ2 Q)) fun _ => False) fun _ => False
structure CmpW (vs : List Nat) (g : WG) (t : WT) (we : WE) (ds : List D) (ρ : Rn) (Q : List D → Rn → Prop) : Prop where
  run : wCmp vs g t we ds [] ρ Q
def wLc (vs : List Nat) (wi : WI) (g : WG) (t : WT) (we : WE) : WE := fun ρ Qd Qx => wi ρ (fun ds ρ1 => CmpW vs g t we ds ρ1 fun ys ρ2 => Qd (.tmp ys) (resR ρ1 vs (wipeR vs ρ2))) Qx
/-- a comprehension's target stores in the block's own slots alone -/
def LGv (pr : Bool) (vs : List Nat) (c : Ct) (w : WG) : TG := fun v σ H Q => ∃ G ρ d Qd Qx, Rel c.K c.pa c.le G H σ ρ ∧ Yl pr c.K G H v d ∧ w d ρ Qd Qx ∧ (∀ σ' ρ' G' H', Nw c.K c.pa c.le G H σ ρ G' H' σ' ρ' → wipe σ' vs = wipe σ vs → Qd ρ' → Q σ' H')
def LGsv (vs : List Nat) (c : Ct) (w : WGs) : TGs := fun us σ H Q => ∃ G ρ ds Qd Qx, Rel c.K c.pa c.le G H σ ρ ∧ RpAll c.K G us ds ∧ w ds ρ Qd Qx ∧ (∀ σ' ρ' G' H', Nw c.K c.pa c.le G H σ ρ G' H' σ' ρ' → wipe σ' vs = wipe σ vs → Qd ρ' → Q σ' H')
abbrev DGv (pr : Bool) (vs : List Nat) (X : Cx) (c : Ct) (t : Expr) (w : WG) : Prop := PG X t (LGv pr vs c w)
abbrev DGsv (vs : List Nat) (X : Cx) (c : Ct) (ts : List Expr) (w : WGs) : Prop := PGs X ts (LGsv vs c w)
theorem wipe_get {vs : List Nat} {σ : L2.St} {i : Nat} (h : i ∈ vs) : (wipe σ vs)[i]? = if i < σ.length then some none else none := by
  induction vs with
  | nil => cases h
  | cons v vs ih =>
    unfold wipe
    by_cases hi : v = i
    · subst hi
      by_cases hl : v < σ.length
      · rw [List.getElem?_set_self (by rw [wipe_length]; exact hl), if_pos hl]
      · rw [List.getElem?_eq_none (by rw [List.length_set, wipe_length]; omega), if_neg hl]
    · rw [List.getElem?_set_ne hi]
      rcases List.mem_cons.mp h with z | z
      · exact absurd z.symm hi
      · exact ih z
theorem wipe_congr {vs : List Nat} {σ σ' : L2.St} (hl : σ.length = σ'.length) (h : ∀ i, i ∉ vs → σ[i]? = σ'[i]?) : wipe σ vs = wipe σ' vs := by
  apply List.ext_getElem?
  intro i
  by_cases hi : i ∈ vs
  · rw [wipe_get hi, wipe_get hi, hl]
  · rw [wipe_ne hi, wipe_ne hi, h i hi]
theorem wipe_set {vs : List Nat} {σ : L2.St} {i : Nat} {x : Option V} (h : i ∈ vs) : wipe (σ.set i x) vs = wipe σ vs :=
  wipe_congr (by rw [List.length_set]) fun j hj => by rw [List.getElem?_set_ne (fun e => hj (by rw [← e]; exact h))]
theorem wipe_idem {vs : List Nat} {σ : L2.St} : wipe (wipe σ vs) vs = wipe σ vs :=
  wipe_congr (wipe_length σ vs) fun j hj => wipe_ne hj
theorem d_gNv {i : Nat} {x : Str} {pos : Pos} {vs : List Nat} (h : PG X (.Name x pos) (gName i)) (hi : i ∈ vs := by decide) : DGv false vs X c (.Name x pos) (wgN i) :=
  PGw h fun v σ H Q ⟨G, ρ, d, Qd, Qx, rl, hd, hw, hQ⟩ => by
    rcases hd with hd | ⟨z, _⟩
    · exact hQ _ _ G H (Nw.store_im rl hd) (wipe_set hi) hw
    · cases z
theorem d_gsNv {vs : List Nat} : DGsv vs X c [] wgsN := PGsw pgs_nil fun us σ H Q ⟨G, ρ, ds, Qd, Qx, rl, hd, hw, hQ⟩ => by
  cases ds with
  | nil =>
    cases hd
    exact ⟨rfl, hQ σ ρ G H (Nw.refl rl) rfl hw⟩
  | cons d r => exact hw.elim
theorem d_gsCv {g : WG} {gs : WGs} {vs : List Nat} (h1 : DGv false vs X c e g) (h2 : DGsv vs X c es gs) (hs : (assignEach (e :: es) X.env).map (·.2) = assign e X.env :: (assignEach es X.env).map (·.2) := by rfl) : DGsv vs X c (e :: es) (wgsC g gs) :=
  PGsw (pgs_cons h1 h2 hs) fun us σ H Q ⟨G, ρ, ds, Qd, Qx, rl, hd, hw, hQ⟩ => by
    cases ds with
    | nil => exact hw.elim
    | cons d r =>
      cases hd with
      | cons hd1 hd2 =>
        refine ⟨_, _, rfl, G, ρ, d, _, Qx, rl, .inl hd1, hw, fun σ1 ρ1 G1 H1 n1 w1 q => ?_⟩
        exact ⟨G1, ρ1, r, Qd, Qx, n1.r, RpAll.mono n1.a.g _ _ hd2, q, fun σ' ρ' G' H' n2 w2 q2 => hQ σ' ρ' G' H' (n1.trans rl n2) (w2.trans w1) q2⟩
theorem d_gTv {k : Nat} {gs : WGs} {n : Nat} {pos : Pos} {vs : List Nat} (hK : X.K = c.K) (hc : X.calm = true) (h : DGsv vs X c es gs) (hn : (assignEach es X.env).length = n := by rfl) (hst : (assignEach es X.env).findIdx? (·.1) = none := by rfl) : DGv pr vs X c (.Tuple es k pos) (wgT n gs) :=
  PGw (pg_tup hc h hn hst) fun v σ H Q ⟨G, ρ, d, Qd, Qx, rl, hd, hw, hQ⟩ => by
    cases d with
    | tuple ds =>
      obtain ⟨hl, hw⟩ := hw
      rw [hK]
      rcases hd with hd | ⟨_, T, xs, es', rfl, e2, e3, e4⟩
      · cases hd with
        | tup h1 h2 => exact ⟨_, _, rfl, (h1.mono rl.ext).sq, by rw [RpAll.length h2]; exact hl, G, ρ, ds, Qd, Qx, rl, h2, hw, hQ⟩
      · cases e2
        exact ⟨_, _, rfl, e3, by rw [RpAll.length e4]; exact hl, G, ρ, ds, Qd, Qx, rl, e4, hw, hQ⟩
    | _ => exact hw.elim
/-- an unknown object of ours changes -/
theorem Nw.poke {K : PySem.W.Frag} {pa : Pa} {le : Le} {G0 H0 G H : Hp} {σ0 σ : L2.St} {ρ0 ρ : Rn} {a : Addr} {o : HO} (n : Nw K pa le G0 H0 σ0 ρ0 G H σ ρ) (h0 : H0 a = none) (g : G a = none) (no : ¬ Own σ ρ a) (np : ¬ PotAt pa a) : Nw K pa le G0 H0 σ0 ρ0 G (upd H a o) σ ρ := by
  refine ⟨⟨n.a.g, fun b u e n1 n2 => by rw [upd_ne (ne_of_none e h0)]; exact n.a.h b u e n1 n2, n.a.f, fun b hb => ?_⟩, n.o, ⟨fun b u e => ?_, n.r.len, fun i s e => ?_, n.r.dis, fun p e => ?_, n.r.sep⟩⟩
  · by_cases hba : b = a
    · rw [hba]; exact h0
    · rw [upd_ne hba] at hb; exact n.a.p b hb
  · rw [upd_ne (ne_of_none e g)]; exact n.r.ext b u e
  · obtain ⟨ov, e1, e2⟩ := n.r.sl i s e
    refine ⟨ov, e1, ?_⟩
    cases s with
    | no => trivial
    | im d => exact e2
    | own l ds =>
      obtain ⟨b, xs, e3, e4, e5, e6, e7⟩ := e2
      have hne : b ≠ a := fun z => no ⟨i, l, ds, e, by rw [e1, e3, z]⟩
      exact ⟨b, xs, e3, e4, by rw [upd_ne hne]; exact e5, e6, e7⟩
    | pot => exact e2
  · obtain ⟨q0, g1, g2⟩ := n.r.pot p e
    have h1 : p.1 ≠ a := fun z => np ⟨p, e, .inl z.symm⟩
    have h2 : p.2 ≠ a := fun z => np ⟨p, e, .inr z.symm⟩
    exact ⟨q0.upd h1 h2, g1, g2⟩
/-- an unknown object of ours through a step that does not touch it -/
theorem Nw.kept {K : PySem.W.Frag} {pa : Pa} {le : Le} {G H G' H' : Hp} {σ σ' : L2.St} {ρ ρ' : Rn} {a : Addr} {o : HO} (n : Nw K pa le G H σ ρ G' H' σ' ρ') (h : H a = some o) (g : G a = none) (no : ¬ Own σ ρ a) (np : ¬ PotAt pa a) : H' a = some o ∧ G' a = none ∧ ¬ Own σ' ρ' a := by
  refine ⟨n.a.h a o h no np, ?_, fun z => ?_⟩
  · cases e : G' a with
    | none => rfl
    | some u =>
      rcases n.a.f a (by rw [e]; simp) with z | z | z
      · exact absurd g z
      · rw [h] at z; cases z
      · exact (no z).elim
  · rcases n.o a z with y | y
    · exact no y
    · rw [h] at y; cases y
/-- the block's slots forgotten, behind -/
theorem Nw.wiped {K : PySem.W.Frag} {pa : Pa} {le : Le} {G H G' H' : Hp} {σ0 σ σ' : L2.St} {ρ ρ' : Rn} {vs : List Nat} (n : Nw K pa le G H σ0 ρ G' H' σ' ρ') (e : wipe σ' vs = wipe σ vs) : Nw K pa le G H σ0 ρ G' H' (wipe σ vs) (wipeR vs ρ') := by
  obtain ⟨r1, o1⟩ := rel_wipe vs n.r
  rw [e] at r1 o1
  exact ⟨n.a, fun b hb => n.o b (o1 b hb), r1⟩
theorem lc_le {wi : WI} {g : WG} {t : WT} {we : WE} {vs : List Nat} {σ : L2.St} {H : Hp} {Q : VK} (h : LE c (wLc vs wi g t we) σ H Q) : tLc (LI pr c wi) (LGv pr vs c.in_ g) (LT c.in_ t) (LE c.in_ we) vs σ H Q := by
  obtain ⟨G, ρ, Qd, Qx, rl, hw, hQ, hX⟩ := h
  refine ⟨G, ρ, _, Qx, rl, hw, fun ds ρ1 G1 H1 J n1 hW q => fun Dl hDl => ?_, hX⟩
  have gDl : G1 Dl = none := by
    cases e : G1 Dl with
    | none => rfl
    | some o => rw [n1.r.ext Dl o e] at hDl; cases hDl
  obtain ⟨rw_, ow_⟩ := rel_wipe vs n1.r
  have potD : ¬ PotAt c.pa Dl := fun z => (n1.r.potT z).1 hDl
  have noX : ∀ (G H : Hp) (σ : L2.St) (ρ : Rn), LX c.in_ G H σ ρ fun _ => False := fun _ _ _ _ _ _ _ _ _ _ _ _ _ z => z.elim
  refine ⟨fun i m H' => m = ds.length - i ∧ i ≤ ds.length ∧ ∃ G' ρ' acc vacc, Nw c.K c.pa c.le G1 H1 (wipe σ vs) (wipeR vs ρ1) G' H' (wipe σ vs) (wipeR vs ρ') ∧ H' Dl = some (.lst vacc) ∧ G' Dl = none ∧ ¬ Own (wipe σ vs) (wipeR vs ρ') Dl ∧ RpAll c.K G' vacc acc ∧
      wCmp vs g t we (ds.drop i) acc ρ' fun ys ρ2 => Qd (.tmp ys) (resR ρ1 vs (wipeR vs ρ2)),
    ⟨_, rfl, Nat.zero_le _, G1, ρ1, [], [], Nw.poke (Nw.refl rw_) hDl gDl (fun z => (rw_.owT z).1 hDl) potD, upd_same, gDl, fun z => (rw_.owT z).1 hDl, .nil, q.run⟩, ?_⟩
  rintro i m H' ⟨rfl, hil, G', ρ', acc, vacc, n2, hD2, gD2, oD2, ra, q2⟩
  by_cases hlt : i < ds.length
  · have hd : ds[i]? = some ds[i] := List.getElem?_eq_getElem hlt
    rw [List.drop_eq_getElem_cons hlt] at q2
    refine .inr ⟨((hW G' H' n2.a.g n2.r.ext i).1 _ hd).1, fun H3 => ∃ G3 ρ3 acc vacc, Nw c.K c.pa c.le G1 H1 (wipe σ vs) (wipeR vs ρ1) G3 H3 (wipe σ vs) (wipeR vs ρ3) ∧ H3 Dl = some (.lst vacc) ∧ G3 Dl = none ∧ ¬ Own (wipe σ vs) (wipeR vs ρ3) Dl ∧ RpAll c.K G3 vacc acc ∧
      wCmp vs g t we (ds.drop (i + 1)) acc ρ3 fun ys ρ2 => Qd (.tmp ys) (resR ρ1 vs (wipeR vs ρ2)), fun H3 h3 => ⟨ds.length - (i + 1), by omega, rfl, hlt, h3⟩, fun x H4 hy => ?_⟩
    obtain ⟨n4, y4⟩ := yld_ok hW n2.a.g n2.r hd hy
    refine ⟨G', wipeR vs ρ', ds[i], _, _, n4.r, y4, q2, fun σ6 ρ6 G6 H6 n6 w6 q6 => ⟨w6.trans wipe_idem, ?_⟩⟩
    have w6' : wipe σ6 vs = wipe σ vs := w6.trans wipe_idem
    have n46 := n4.trans n2.r n6
    refine ⟨G6, ρ6, _, _, n6.r, q6, fun k ρ7 G7 H7 n7 q7 => ?_, noX _ _ _ _⟩
    have n47 := n46.trans n2.r n7
    cases k with
    | false =>
      have q7 := q7.f rfl
      obtain ⟨k1, k2, k3⟩ := n47.kept hD2 gD2 oD2 potD
      have n27 := n2.trans rw_ n47
      exact ⟨G7, ρ7, acc, vacc, n27.wiped w6', k1, k2, fun z => k3 ((by
        obtain ⟨_, o1⟩ := rel_wipe vs n7.r
        rw [w6'] at o1
        exact o1 _ z)), RpAll.mono n47.a.g _ _ ra, q7⟩
    | true =>
      have q7 := q7.t rfl
      refine ⟨G7, ρ7, _, _, n7.r, q7, fun v r ρ8 G8 H8 n8 rr fr q8 => ?_, noX _ _ _ _⟩
      obtain ⟨G9, d, ρ9, s9, A9, O9, _, r9, hd9, hz9, q9⟩ := fz_ok n7.r n8.a n8.o n8.r rr fr q8
      have n9 : Nw c.K c.pa c.le G7 H7 σ6 ρ7 G9 H8 σ6 ρ9 := ⟨A9, O9, r9⟩
      have n49 := n47.trans n2.r n9
      obtain ⟨k1, k2, k3⟩ := n49.kept hD2 gD2 oD2 potD
      have n29 := n2.trans rw_ n49
      have k4 : ¬ Own (wipe σ vs) (wipeR vs ρ9) Dl := fun z => k3 (by
        obtain ⟨_, o1⟩ := rel_wipe vs r9
        rw [w6'] at o1
        exact o1 _ z)
      refine ⟨vacc, k1, by rw [RpAll.length ra]; exact Nat.lt_of_lt_of_le hz9 (by decide), G9, ρ9, acc ++ [d], vacc ++ [v], Nw.poke (n29.wiped w6') hDl k2 k4 potD, upd_same, k2, k4, RpAll.append (RpAll.mono n49.a.g _ _ ra) (.cons hd9 .nil), q9⟩
  · have e : i = ds.length := by omega
    subst e
    rw [List.drop_length] at q2
    obtain ⟨nb, ob⟩ := comp_back n1.r n2
    refine .inl ⟨(hW G' H' n2.a.g n2.r.ext _).2 rfl, hQ (.ref Dl) (.tmp acc) _ G' H' (n1.trans rl nb) ⟨Dl, _, rfl, gD2, hD2, .l ra, fun z => ?_, potD⟩ (fun a e => by cases e; exact .inl (n1.a.p Dl hDl)) q2⟩
    rcases ob Dl z with y | y
    · exact (n1.r.owT y).1 hDl
    · exact oD2 y
end
end Tr

namespace Tr
open PySem L2

/-! ### rules by values that tell a new tuple's object -/
section
variable {X : Cx}
theorem call_tupleF : CallR X (.type "tuple") (fun xs H Q => ∃ p ys, xs = [.ref p] ∧ ((SqL X.K H p ys ∧ rNewT ys H Q) ∨ (SqT X.K H p ys ∧ Q (.ref p) H))) := by
  intro pins s σ H xs us Q I r h
  obtain ⟨p, ys, rfl, h⟩ := h
  obtain ⟨u, rfl, rx⟩ := Vals.one r
  cases rx
  rcases h with ⟨hq, q⟩ | ⟨hq, q⟩
  · obtain ⟨its, r', pl, hz⟩ := I.list hq
    have hlen := r'.length
    refine call_tuple_list pl.isList (fun h' kp => ?_) (by simp only [List.size_toArray] <;> omega)
    exact Inv.newT (tk := s.toks) (s := { s with heap := h' }) (I.kept (t' := s.toks) kp) r' hz q
  · obtain ⟨its, r', pl, hz⟩ := I.tuple hq
    exact call_tuple_same pl ⟨.ref p, H, I, rfl, q⟩
theorem Vals.nilI {xs : List V} {us : List Value} (h : Vals xs us) : xs = [] ↔ us = [] := by
  cases h <;> simp
def rCatF (K : PySem.W.Frag) : R2 := fun x y H Q => ∃ a b xs ys, x = .ref a ∧ y = .ref b ∧ SqT K H a xs ∧ SqT K H b ys ∧ xs.length + ys.length ≤ sizeLine ∧
  (xs = [] → Q (.ref b) H) ∧ (xs ≠ [] → ys = [] → Q (.ref a) H) ∧ (xs ≠ [] → ys ≠ [] → rNewT (xs ++ ys) H Q)
theorem op_catF : OpR X (binaryOp .Add) (rCatF X.K) := by
  intro pins s σ H x y v u Q I rx ry h
  obtain ⟨a, b, xs, ys, rfl, rfl, ha, hb, hz, q0, q1, q2⟩ := h
  cases rx
  cases ry
  obtain ⟨its, r1, p1, _⟩ := I.tuple ha
  obtain ⟨its2, r2, p2, _⟩ := I.tuple hb
  have i1 := Vals.nilI r1
  have i2 := Vals.nilI r2
  by_cases hx : xs = []
  · have e1 := i1.mp hx
    subst e1
    exact cat_tup0 p1 p2 ⟨.ref b, H, I, rfl, q0 hx⟩
  · refine HT.cat_tup p1 p2 (fun z => hx (i1.mpr z)) (fun z => ⟨.ref a, H, I, rfl, q1 hx (i2.mpr z)⟩) (fun z => ?_) (by rw [← r1.length, ← r2.length]; exact hz)
    exact Inv.newT (tk := s.toks) I (r1.append r2) (by rw [List.length_append]; exact hz) (q2 hx fun w => z (i2.mp w))
def rSlF (K : PySem.W.Frag) : V → Option Int → Option Int → Hp → VK → Prop := fun x lo hi H Q => ∃ a xs, x = .ref a ∧ SqT K H a xs ∧
  (HT.sIx xs.length 0 lo = 0 ∧ HT.sIx xs.length xs.length hi = xs.length → Q (.ref a) H) ∧ (¬ (HT.sIx xs.length 0 lo = 0 ∧ HT.sIx xs.length xs.length hi = xs.length) → rNewT (cutV xs lo hi) H Q)
theorem sl_tupF : L2.SlR X (rSlF X.K) := by
  intro pins s σ H x v vl vu lo hi sl Q I rx hs pl pu h
  obtain ⟨a, xs, rfl, hx, q1, q2⟩ := h
  cases rx
  obtain ⟨its, r, ht, hz⟩ := I.tuple hx
  have hlen : its.toArray.size = xs.length := by rw [List.size_toArray]; exact r.length.symm
  refine ⟨"tuple", _, PyProof.Rows.slot_tuple_getitem.lookup, ht.typeIs, ?_⟩
  by_cases hw : HT.sIx xs.length 0 lo = 0 ∧ HT.sIx xs.length xs.length hi = xs.length
  · exact getItem_tuple_whole ht hs pl pu (by rw [hlen]; exact hw) ⟨.ref a, H, I, rfl, q1 hw⟩
  · refine HT.getItem_tuple_cut ht hs pl pu (by rw [hlen]; exact hw) ?_ (by rw [hlen]; exact hz)
    rw [hlen]
    have hr := (r.drop (HT.sIx xs.length 0 lo)).take (HT.sIx xs.length xs.length hi - HT.sIx xs.length 0 lo)
    exact Inv.newT (tk := s.toks) I hr (Nat.le_trans (cutV_length xs lo hi) hz) (q2 hw)
def rRepF (K : PySem.W.Frag) : R2 := fun x y H Q => ∃ l k xs, x = .ref l ∧ y = .int k ∧ SqT K H l xs ∧ xs ≠ [] ∧ 2 ≤ k ∧ k ≤ 1000 ∧ xs.length ≤ 1000 ∧ rNewT (List.replicate k.toNat xs).flatten H Q

/-! t[::-1] -/
theorem revPlaces (n : Nat) : Builtin.Slice.sliceAdjust none none (-1) (n : Int) = ((n : Int) - 1, -1) ∧ Builtin.Slice.slicePlaces ((n : Int) - 1) (-1) (-1) = n := by
  refine ⟨rfl, ?_⟩
  unfold Builtin.Slice.slicePlaces
  rw [if_neg (by decide)]
  by_cases h : n = 0
  · subst h
    rfl
  · rw [if_pos (by omega), show (-(-1 : Int)) = 1 from rfl, Int.ediv_one]
    omega
theorem revPick (xs : List Value) : ((List.range xs.length).filterMap fun (m : Nat) => xs.toArray[(((xs.length : Int) - 1) + (m : Int) * (-1)).toNat]?) = xs.reverse := by
  apply List.ext_getElem?
  intro i
  have key : ∀ (l : List Nat) (f : Nat → Option Value) (g : Nat → Value), (∀ m ∈ l, f m = some (g m)) → l.filterMap f = l.map g := by
    intro l f g h
    induction l with
    | nil => rfl
    | cons a l ih =>
      rw [List.filterMap_cons, h a List.mem_cons_self, List.map_cons, ih fun m hm => h m (List.mem_cons_of_mem _ hm)]
  by_cases hn : xs = []
  · subst hn; rfl
  · obtain ⟨y, r, rfl⟩ : ∃ y r, xs = y :: r := by
      cases xs with
      | nil => exact absurd rfl hn
      | cons y r => exact ⟨y, r, rfl⟩
    rw [key _ _ (fun m => (y :: r).getD ((y :: r).length - 1 - m) y) fun m hm => ?_]
    · rw [List.getElem?_map]
      by_cases hi : i < (y :: r).length
      · rw [List.getElem?_range hi, List.getElem?_reverse hi]
        show some ((y :: r).getD ((y :: r).length - 1 - i) y) = _
        rw [List.getD_eq_getElem?_getD, List.getElem?_eq_getElem (by omega)]
        rfl
      · rw [List.getElem?_eq_none (by rw [List.length_range]; omega), List.getElem?_eq_none (by rw [List.length_reverse]; omega)]
        rfl
    · have hm' : m < (y :: r).length := List.mem_range.mp hm
      have e : ((((y :: r).length : Int) - 1) + (m : Int) * (-1)).toNat = (y :: r).length - 1 - m := by omega
      rw [e, List.getElem?_toArray, List.getD_eq_getElem?_getD, List.getElem?_eq_getElem (by omega)]
      rfl
theorem getItem_tuple_back {prog : Program} {w : World} {A : Around} {E : Value → Shared → Prop} {s : Shared} {t sl : Addr} {its : List Value} {vl vu vs : Value} {Q : Value → Shared → Prop} (ht : PyProof.Rows.IsTup s.heap t its.toArray)
    (hs : s.heap.IsSliceOf sl vl vu vs) (pl : IsPart vl none) (pu : IsPart vu none) (ps : IsPart vs (some (-1))) (h : Q (.ref s.heap.objs.size) { s with heap := s.heap.push { cls := .type "tuple", data := .seq its.reverse.toArray } }) (hsz : its.length ≤ sizeLine) :
    wpAny (model prog w) A (getItem (.ref t) (.ref sl)) Q E s := by
  have hok : sizeOk (.seq its.reverse.toArray) := by
    show its.reverse.toArray.size ≤ sizeLine
    rw [List.size_toArray, List.length_reverse]
    exact hsz
  obtain ⟨os, hos, hcs, hds⟩ := id hs
  have hTs : s.TypeIs (.ref sl) "slice" := ⟨os, hos, hcs⟩
  obtain ⟨rp1, rp2⟩ := revPlaces its.length
  unfold getItem
  try with_reducible refine wpAny_holding ?_
  first | refine wpAny_bind (wpAny_pure ?_) | skip
  refine wpAny_bind (wpAny_sequenceKey ht.typeIs (by decide) ?_)
  refine wpAny_bind (wpAny_callSpecial?_slot (name := Str.ofString "__getitem__") ht.typeIs PyProof.Rows.slot_tuple_getitem
    (wpAny_call_entry PyProof.Rows.slot_tuple_getitem ht.typeIs PyProof.Rows.entry_tuple_getitem ?_ (PyProof.Rows.args_tuple_getitem _ _)))
  show wpAny _ _ (Builtin.Tuple.tupleItemsOf (.ref t) >>= _) _ _ s
  refine wpAny_bind (PyProof.Rows.tupleItemsOf_ ht ?_)
  refine wpAny_bind (wpAny_typeOf hTs ?_)
  rw [if_pos (by decide)]
  refine wpAny_bind ?_
  unfold Builtin.Slice.sliceApplied Builtin.Slice.sliceFields
  refine wpAny_bind (wpAny_bind (wpAny_field hos hds (x := vl) rfl (wpAny_bind (wpAny_field hos hds (x := vu) rfl (wpAny_bind (wpAny_field hos hds (x := vs) rfl (wpAny_pure ?_)))))))
  refine wpAny_bind (HT.slicePart_ ps ?_)
  show wpAny _ _ (if ((-1 : Int) == 0) = true then _ else _) _ _ s
  rw [if_neg (by decide)]
  refine wpAny_bind (HT.slicePart_ pl (wpAny_bind (HT.slicePart_ pu (wpAny_bind (wpAny_pure ?_)))))
  show wpAny _ _ (match Builtin.Slice.sliceAdjust none none (-1) (its.toArray.size : Int) with | (lo, hi) => pure (lo, (-1 : Int), Builtin.Slice.slicePlaces lo hi (-1))) _ _ s
  rw [List.size_toArray, rp1]
  show wpAny _ _ (pure ((its.length : Int) - 1, (-1 : Int), Builtin.Slice.slicePlaces ((its.length : Int) - 1) (-1) (-1))) _ _ s
  rw [rp2]
  refine wpAny_pure ?_
  have hno : ¬ (((((its.length : Int) - 1 == 0) && ((-1 : Int) == 1)) && (its.length == its.length)) = true) := by
    intro q
    rw [Bool.and_eq_true, Bool.and_eq_true] at q
    exact absurd (eq_of_beq q.1.2) (by decide)
  show wpAny _ _ (if (((((its.length : Int) - 1 == 0) && ((-1 : Int) == 1)) && (its.length == its.length)) = true) then _ else _) _ _ s
  rw [if_neg hno, revPick]
  first
    | exact wpAny_bind (m := Builtin.Tuple.tupleExact _) (wpAny_newObj_type (wpAny_pure ⟨_, rfl, wpAny_pure h⟩) hok)
    | exact wpAny_bind (m := Builtin.Tuple.tupleExact _) (wpAny_newObj_type (wpAny_bind (wpAny_pure (wpAny_pure ⟨_, rfl, wpAny_pure h⟩))) hok)
    | exact wpAny_bind (wpAny_bind (m := Builtin.Tuple.tupleExact _) (wpAny_newObj_type (wpAny_pure (wpAny_pure ⟨_, rfl, wpAny_pure h⟩)) hok))
    | exact wpAny_bind (wpAny_bind (m := Builtin.Tuple.tupleExact _) (wpAny_newObj_type (wpAny_pure ⟨_, rfl, wpAny_pure h⟩) hok))
end
section
variable {X : Cx} {e : Expr}
/-- xs[::-1], of a list or a tuple -/
def tBack (K : PySem.W.Frag) (te : TE) : TE := fun σ H Q => te σ H fun x H1 => ∃ a xs, x = .ref a ∧ ((SqL K H1 a xs ∧ ∀ p, H1 p = none → Q (.ref p) (upd H1 p (.lst xs.reverse))) ∨ (SqT K H1 a xs ∧ rNewT xs.reverse H1 Q))
theorem pe_back {te : TE} {k : Nat} {p1 p2 p3 pos : Pos} (he : PE X e te) : PE X (.Subscript e (.Slice none none (some (.UnaryOp .USub (.Constant (.int 1) k p1) p2)) p3) pos) (tBack X.K te) := by
  refine ⟨fun pins s σ H Q I h => PyProof.Rows.Subscript_ (thn (he.run pins s σ H _ I h) fun v s1 hv => ?_)⟩
  obtain ⟨x, H1, I1, r1, a, xs, rfl, hx⟩ := hv
  cases r1
  have hst : PO X (some (.UnaryOp .USub (.Constant (.int 1) k p1) p2)) (tPart (tUn (rU fun i => .int (-i)) (tC (.int 1)))) := po_some (pe_un un_neg pe_int)
  refine wpAny_Slice (thn (po_none.run pins s1 σ H1 (fun o H2 => o = none ∧ H2 = H1) I1 ⟨rfl, rfl⟩) fun vl s2 h2 => ?_)
  obtain ⟨l, H2, I2, pl, rfl, rfl⟩ := h2
  refine thn (po_none.run pins s2 σ H2 (fun o H3 => o = none ∧ H3 = H2) I2 ⟨rfl, rfl⟩) fun vu s3 h3 => ?_
  obtain ⟨u, H3, I3, pu, rfl, rfl⟩ := h3
  refine thn (hst.run pins s3 σ H3 (fun o H4 => o = some (-1) ∧ H4 = H3) I3 ⟨1, rfl, -1, rfl, rfl, rfl⟩) fun vs s4 h4 => ?_
  obtain ⟨o, H4, I4, ps, rfl, rfl⟩ := h4
  have I5 : Inv X pins σ H4 { s4 with heap := s4.heap.push { cls := .type "slice", data := .fields #[vl, vu, vs] } } := I4.kept (t' := s4.toks) fun b ob q => Heap.get?_push_of_some _ q
  show wpAny (model X.prog X.w) X.A (PyProof.Rows.subscriptTail e (.Slice none none (some (.UnaryOp .USub (.Constant (.int 1) k p1) p2)) p3) (.ref a) (.ref s4.heap.objs.size)) (EP X pins σ Q) X.xe { s4 with heap := s4.heap.push { cls := .type "slice", data := .fields #[vl, vu, vs] } }
  rcases hx with ⟨hx, q⟩ | ⟨hx, q⟩
  · obtain ⟨its, r, ht, hz⟩ := I5.list hx
    have hlen := r.length
    refine PyProof.Rows.tail_any (ops := [.ref a, .ref s4.heap.objs.size]) ht.isList.typeIs (PySem.slot_list_getitem.lookup) ?_ (by with_unfolding_all rfl)
    refine wpAny_getItem_list_slice ht.isList (Heap.IsSliceOf.new _ vl vu vs) pl pu ps (by decide) ?_ (by rw [List.size_toArray]; omega)
    rw [PySem.W.krv_pick]
    have hf := I5.hok.fresh (Nat.le_refl (s4.heap.push { cls := .type "slice", data := .fields #[vl, vu, vs] }).objs.size)
    refine ⟨.ref _, _, I5.laid (t' := s4.toks) (o := .lst xs.reverse) (fun b ob z => Heap.get?_push_of_some _ z) (Nat.le_refl _) ?_, rfl, q _ hf⟩
    exact ⟨by rw [List.length_reverse]; exact hz, its.reverse, 0, r.reverse, Heap.get?_push_size _ rfl⟩
  · obtain ⟨its, r, ht, hz⟩ := I5.tuple hx
    refine PyProof.Rows.tail_any (ops := [.ref a, .ref s4.heap.objs.size]) ht.typeIs (PyProof.Rows.slot_tuple_getitem.lookup) ?_ (by with_unfolding_all rfl)
    refine getItem_tuple_back ht (Heap.IsSliceOf.new _ vl vu vs) pl pu ps ?_ (by rw [← r.length]; exact hz)
    exact Inv.newT (tk := s4.toks) I5 r.reverse (by rw [List.length_reverse]; exact hz) q
/-- repr of data -/
theorem call_reprD (hg : X.A.guards = some []) (hu : X.A.units + 66 < cLine) : CallR X (.builtin "repr") (fun xs H Q => ∃ v d, xs = [v] ∧ Dp X.K H v d ∧ d.showable = true ∧ d.hasDict = false ∧ d.depth ≤ 64 ∧ d.shown.length ≤ sizeLine ∧ Q (.str d.shown) H) := by
  intro pins s σ H xs us Q I r h
  obtain ⟨v, d, rfl, hd, h1, h2, h3, h4, q⟩ := h
  obtain ⟨u, rfl, rx⟩ := Vals.one r
  cases hd with
  | non =>
    cases rx
    exact PySem.P.repr_of_none ⟨.str _, H, I.tok _, ⟨_, rfl⟩, by rw [← show (PyData.none).shown = _ from PyData.shown_none]; exact q⟩
  | bl b =>
    cases rx
    refine PySem.P.repr_of_bool ⟨.str _, H, I.tok _, ⟨_, rfl⟩, ?_⟩
    rw [PyData.shown_bool] at q
    cases b <;> exact q
  | int i =>
    obtain ⟨t, rfl⟩ := rx
    refine PySem.P.repr_of_int (by simpa [PyData.showable] using h1) ⟨.str _, H, I.tok _, ⟨_, rfl⟩, ?_⟩
    rw [PyData.shown_int] at q
    exact q
  | str x =>
    obtain ⟨t, rfl⟩ := rx
    rw [PyData.shown_str] at q h4
    exact PySem.P.repr_of_str ⟨.str _, H, I.tok _, ⟨_, rfl⟩, q⟩ h4
  | lst hs ha =>
    cases rx
    obtain ⟨as, rd⟩ := Dp.reads I _ _ _ (.lst hs ha) rfl
    exact repr_of_reads' (h₀ := s.heap) rd h1 (fun z => (by rw [h2] at z; cases z)) hg (by omega) (fun _ _ e => e) (fun h' u tk hk => ⟨.str _, H, I.kept (t' := tk) hk, ⟨_, rfl⟩, q⟩) h4
  | tup hs ha =>
    cases rx
    obtain ⟨as, rd⟩ := Dp.reads I _ _ _ (.tup hs ha) rfl
    exact repr_of_reads' (h₀ := s.heap) rd h1 (fun z => (by rw [h2] at z; cases z)) hg (by omega) (fun _ _ e => e) (fun h' u tk hk => ⟨.str _, H, I.kept (t' := tk) hk, ⟨_, rfl⟩, q⟩) h4
/-- x in a list or a tuple of data -/
def rInA (neg : Bool) (K : PySem.W.Frag) : R2 := fun x y H Q => ∃ d e ds, Dp K H x d ∧ Dp K H y e ∧ (e = .list ds ∨ e = .tuple ds) ∧ SeqAt.shaped d = true ∧ SeqAt.shaped e = true ∧ Q (.bl (if neg then !ds.any (fun z => PyData.eqv z d) else ds.any fun z => PyData.eqv z d)) H
theorem roomI {A : Around} {xs : List PyData} {d : PyData} (hd : SeqAt.shaped d = true) (hu : A.units + 66 < cLine) : A.units + 1 + min (PyData.depthAll xs) d.depth < cLine := by
  have h1 := SeqAt.depth_of_shaped hd
  omega
theorem op_inA (hu : X.A.units + 66 < cLine) : OpR X (compareOp .In) (rInA false X.K) := by
  intro pins s σ H x y v u Q I rx ry h
  obtain ⟨d, e, ds, hd, he, hc, sd, se, q⟩ := h
  obtain ⟨as, r1⟩ := Dp.reads I d x v hd rx
  obtain ⟨bs, r2⟩ := Dp.reads I e y u he ry
  rcases hc with rfl | rfl
  · exact SeqAt.in_list_reads r2 r1 (SeqAt.canLay_of_shaped se) (SeqAt.canLay_of_shaped sd) (roomI sd hu) ⟨.bl _, H, I, rfl, q⟩
  · exact SeqAt.in_tuple_reads r2 r1 (SeqAt.canLay_of_shaped se) (SeqAt.canLay_of_shaped sd) (roomI sd hu) ⟨.bl _, H, I, rfl, q⟩
theorem op_ninA (hu : X.A.units + 66 < cLine) : OpR X (compareOp .NotIn) (rInA true X.K) := by
  intro pins s σ H x y v u Q I rx ry h
  obtain ⟨d, e, ds, hd, he, hc, sd, se, q⟩ := h
  obtain ⟨as, r1⟩ := Dp.reads I d x v hd rx
  obtain ⟨bs, r2⟩ := Dp.reads I e y u he ry
  rcases hc with rfl | rfl
  · exact SeqAt.notIn_list_reads r2 r1 (SeqAt.canLay_of_shaped se) (SeqAt.canLay_of_shaped sd) (roomI sd hu) ⟨.bl _, H, I, rfl, q⟩
  · exact SeqAt.notIn_tuple_reads r2 r1 (SeqAt.canLay_of_shaped se) (SeqAt.canLay_of_shaped sd) (roomI sd hu) ⟨.bl _, H, I, rfl, q⟩
end
end Tr

namespace Tr
open PySem L2

/-! ### operations on data -/
def v1 (g : D → (R → Prop) → Prop) : F1 := fun r ρ Qd => match vw ρ r with
  | some d => g d fun r => Qd r ρ
  | none => False
def v2 (g : D → D → (R → Prop) → Prop) : F2 := fun r r' ρ Qd => match vw ρ r with
  | some d => (match vw ρ r' with
    | some e => g d e fun r => Qd r ρ
    | none => False)
  | none => False
def vA1 (g : D → (R → Prop) → Prop) : FA := fun rs ρ Qd => match rs with
  | [r] => v1 g r ρ Qd
  | _ => False
def vA2 (g : D → D → (R → Prop) → Prop) : FA := fun rs ρ Qd => match rs with
  | [r, r'] => v2 g r r' ρ Qd
  | _ => False
/-- the soundness that a two-place operation on data asks -/
def Ok1 (c : Ct) (op : V → Hp → VK → Prop) (g : D → (R → Prop) → Prop) : Prop := ∀ G H σ ρ v r d Qd Q, Rel c.K c.pa c.le G H σ ρ → RR c.K c.pa G H σ ρ v r → vw ρ r = some d → g d (fun r => Qd r ρ) → Got c G H σ ρ Qd Q → op v H Q
def Ok2 (c : Ct) (op : R2) (g : D → D → (R → Prop) → Prop) : Prop := ∀ G H σ ρ v v' r r' d e Qd Q, Rel c.K c.pa c.le G H σ ρ → RR c.K c.pa G H σ ρ v r → RR c.K c.pa G H σ ρ v' r' → vw ρ r = some d → vw ρ r' = some e → g d e (fun r => Qd r ρ) → Got c G H σ ρ Qd Q → op v v' H Q
section
variable {c : Ct}
theorem snd1 {op : V → Hp → VK → Prop} {g : D → (R → Prop) → Prop} (h : Ok1 c op g) : Snd1 c op (v1 g) := fun G H σ ρ v r Qd Q rl _ rr q hg => by
  have q' : (match vw ρ r with
    | some d => g d fun r => Qd r ρ
    | none => False) := q
  cases e : vw ρ r with
  | none => rw [e] at q'; exact q'.elim
  | some d => rw [e] at q'; exact h G H σ ρ v r d Qd Q rl rr e q' hg
theorem snd2 {op : R2} {g : D → D → (R → Prop) → Prop} (h : Ok2 c op g) : Snd2 c op (v2 g) := fun G H σ ρ v v' r r' Qd Q rl _ _ rr rr' q hg => by
  have q' : (match vw ρ r with
    | some d => (match vw ρ r' with
      | some e => g d e fun r => Qd r ρ
      | none => False)
    | none => False) := q
  cases e : vw ρ r with
  | none => rw [e] at q'; exact q'.elim
  | some d =>
    rw [e] at q'
    cases e' : vw ρ r' with
    | none => rw [e'] at q'; exact q'.elim
    | some d' => rw [e'] at q'; exact h G H σ ρ v v' r r' d d' Qd Q rl rr rr' e e' q' hg
theorem sndA1 {op : List V → Hp → VK → Prop} {g : D → (R → Prop) → Prop} (h : Ok1 c (fun v H Q => op [v] H Q) g) : SndA c op (vA1 g) := fun G H σ ρ vs rs Qd Q rl rr q hg => by
  cases rr with
  | nil => exact q.elim
  | cons r1 rest =>
    cases rest with
    | nil => exact snd1 h G H σ ρ _ _ Qd Q rl r1.1 r1.2 q hg
    | cons _ _ => exact q.elim
theorem sndA2 {op : List V → Hp → VK → Prop} {g : D → D → (R → Prop) → Prop} (h : Ok2 c (fun v v' H Q => op [v, v'] H Q) g) : SndA c op (vA2 g) := fun G H σ ρ vs rs Qd Q rl rr q hg => by
  cases rr with
  | nil => exact q.elim
  | cons r1 rest =>
    cases rest with
    | nil => exact q.elim
    | cons r2 rest =>
      cases rest with
      | nil => exact snd2 h G H σ ρ _ _ _ _ Qd Q rl r1.1 r2.1 r1.2 r2.2 q hg
      | cons _ _ => exact q.elim
/-- a flat answer -/
theorem got_flat {G H : Hp} {σ : L2.St} {ρ : Rn} {Qd : R → Rn → Prop} {Q : VK} {v : V} {d : D} (hg : Got c G H σ ρ Qd Q) (rl : Rel c.K c.pa c.le G H σ ρ) (hd : flatD v = some d) (q : Qd (.im d) ρ) : Q v H :=
  hg v (.im d) ρ G H (Nw.refl rl) (flatD_rp hd) trivial q
theorem got_known {G H : Hp} {σ : L2.St} {ρ : Rn} {Qd : R → Rn → Prop} {Q : VK} {v : V} {d : D} (hg : Got c G H σ ρ Qd Q) (rl : Rel c.K c.pa c.le G H σ ρ) (hd : Rp c.K G v d) (q : Qd (.im d) ρ) : Q v H :=
  hg v (.im d) ρ G H (Nw.refl rl) hd trivial q
theorem got_tup {G H : Hp} {σ : L2.St} {ρ : Rn} {Qd : R → Rn → Prop} {Q : VK} {vs : List V} {ds : List D} (hg : Got c G H σ ρ Qd Q) (rl : Rel c.K c.pa c.le G H σ ρ) (h : RpAll c.K G vs ds) (q : Qd (.im (.tuple ds)) ρ) : rNewT vs H Q := fun p o ho hp => by
  obtain ⟨n2, h2⟩ := Nw.new_tup ho rl hp h
  exact hg _ (.im (.tuple ds)) ρ _ _ n2 h2 trivial q
theorem got_lst {G H : Hp} {σ : L2.St} {ρ : Rn} {Qd : R → Rn → Prop} {Q : VK} {vs : List V} {ds : List D} (hg : Got c G H σ ρ Qd Q) (rl : Rel c.K c.pa c.le G H σ ρ) (h : RpAll c.K G vs ds) (q : Qd (.tmp ds) ρ) : ∀ p, H p = none → Q (.ref p) (upd H p (.lst vs)) := fun p hp => by
  obtain ⟨n2, h2, h3⟩ := Nw.new_lst rl hp h
  exact hg _ (.tmp ds) ρ _ _ n2 h2 h3 q
theorem vw_tup {G H : Hp} {σ : L2.St} {ρ : Rn} {v : V} {r : R} {ds : List D} (rl : Rel c.K c.pa c.le G H σ ρ) (rr : RR c.K c.pa G H σ ρ v r) (e : vw ρ r = some (.tuple ds)) : ∃ a xs, v = .ref a ∧ TupK c.K G a xs ∧ RpAll c.K G xs ds := by
  have h := vw_im rl rr e fun _ z => nomatch z
  cases h with
  | tup h1 h2 => exact ⟨_, _, rfl, h1, h2⟩
theorem vw_flat {G H : Hp} {σ : L2.St} {ρ : Rn} {v : V} {r : R} {d : D} {x : V} (rl : Rel c.K c.pa c.le G H σ ρ) (rr : RR c.K c.pa G H σ ρ v r) (e : vw ρ r = some d) (hx : flatD x = some d) : v = x := by
  have h := vw_ok rl rr e
  cases x <;> cases hx <;> cases h <;> rfl
end

/-! + -/
def gAdd : D → D → (R → Prop) → Prop := fun d e q => match d, e with
  | .int i, .int j => q (.im (.int (i + j)))
  | .tuple a, .tuple b => a.length + b.length ≤ 100000 ∧ q (.im (.tuple (a ++ b)))
  | .list a, .list b => a.length + b.length ≤ 100000 ∧ q (.tmp (a ++ b))
  | .str a, .str b => a.length + b.length ≤ 100000 ∧ q (.im (.str (a ++ b)))
  | _, _ => False
def opAddS : R2 := fun x y H Q => ∃ i j, x = .str i ∧ y = .str j ∧ i.length + j.length ≤ sizeLine ∧ Q (.str (i ++ j)) H
def opAdd (K : PySem.W.Frag) : R2 := fun x y H Q => (rI0 (fun i j => .int (i + j))) x y H Q ∨ (rCatF K x y H Q ∨ (rCat x y H Q ∨ opAddS x y H Q))
theorem or_add {X : Cx} : OpR X (binaryOp .Add) (opAdd X.K) := OpR.or op_add (OpR.or op_catF (OpR.or op_cat op_add_str))
section
variable {X : Cx} {c : Ct} {a b e : Expr} {wa wb : WE} {pos : Pos}
theorem ok_add : Ok2 c (opAdd c.K) gAdd := fun G H σ ρ v v' r r' d e Qd Q rl rr rr' h1 h2 q hg => by
  cases d with
  | int i =>
    cases e with
    | int j =>
      have e1 := vw_int rl rr h1
      have e2 := vw_int rl rr' h2
      subst e1 e2
      exact .inl ⟨i, j, rfl, rfl, got_flat hg rl rfl q⟩
    | _ => exact q.elim
  | str x =>
    cases e with
    | str y =>
      have e1 : v = .str x := vw_flat rl rr h1 rfl
      have e2 : v' = .str y := vw_flat rl rr' h2 rfl
      subst e1 e2
      exact .inr (.inr (.inr ⟨x, y, rfl, rfl, szl q.1, got_flat hg rl rfl q.2⟩))
    | _ => exact q.elim
  | tuple xs =>
    cases e with
    | tuple ys =>
      obtain ⟨a1, us, rfl, t1, p1⟩ := vw_tup rl rr h1
      obtain ⟨a2, ws, rfl, t2, p2⟩ := vw_tup rl rr' h2
      have l1 := RpAll.length p1
      have l2 := RpAll.length p2
      obtain ⟨hz, q⟩ := q
      refine .inr (.inl ⟨a1, a2, us, ws, rfl, rfl, (t1.mono rl.ext).sq, (t2.mono rl.ext).sq, szl (by omega), fun z => ?_, fun _ z => ?_, fun _ _ => got_tup hg rl (RpAll.append p1 p2) q⟩)
      · subst z
        cases p1
        exact got_known hg rl (.tup t2 p2) q
      · subst z
        cases p2
        rw [List.append_nil] at q
        exact got_known hg rl (.tup t1 p1) q
    | _ => exact q.elim
  | list xs =>
    cases e with
    | list ys =>
      obtain ⟨a1, us, rfl, t1, p1⟩ := vw_lst rl rr h1
      obtain ⟨a2, ws, rfl, t2, p2⟩ := vw_lst rl rr' h2
      have l1 := RpAll.length p1
      have l2 := RpAll.length p2
      obtain ⟨hz, q⟩ := q
      exact .inr (.inr (.inl ⟨a1, a2, us, ws, rfl, rfl, t1, t2, szl (by omega), got_lst hg rl (RpAll.append p1 p2) q⟩))
    | _ => exact q.elim
  | none => exact q.elim
  | bool _ => exact q.elim
  | dict _ => exact q.elim
theorem d_add (ha : DE X c a wa) (hb : DE X c b wb) (hK : X.K = c.K := by rfl) : DE X c (.BinOp a .Add b pos) (w2 (v2 gAdd) wa wb) := d_op or_add (snd2 (by rw [hK]; exact ok_add)) ha hb

/-! - * % // -/
def gI (f : Int → Int → D) (C : Int → Int → Prop) : D → D → (R → Prop) → Prop := fun d e q => match d, e with
  | .int i, .int j => C i j ∧ q (.im (f i j))
  | _, _ => False
theorem ok_I {f : Int → Int → V} {f' : Int → Int → D} {C C' : Int → Int → Prop} (hf : ∀ i j, flatD (f i j) = some (f' i j)) (hC : ∀ i j, C' i j → C i j) : Ok2 c (rI C f) (gI f' C') := fun G H σ ρ v v' r r' d e Qd Q rl rr rr' h1 h2 q hg => by
  cases d with
  | int i =>
    cases e with
    | int j =>
      have e1 := vw_int rl rr h1
      have e2 := vw_int rl rr' h2
      subst e1 e2
      exact ⟨i, j, rfl, rfl, hC i j q.1, got_flat hg rl (hf i j) q.2⟩
    | _ => exact q.elim
  | _ => exact q.elim
theorem ok_I0 {f : Int → Int → V} {f' : Int → Int → D} (hf : ∀ i j, flatD (f i j) = some (f' i j)) : Ok2 c (rI0 f) (gI f' fun _ _ => True) := fun G H σ ρ v v' r r' d e Qd Q rl rr rr' h1 h2 q hg => by
  cases d with
  | int i =>
    cases e with
    | int j =>
      have e1 := vw_int rl rr h1
      have e2 := vw_int rl rr' h2
      subst e1 e2
      exact ⟨i, j, rfl, rfl, got_flat hg rl (hf i j) q.2⟩
    | _ => exact q.elim
  | _ => exact q.elim
abbrev gSub := gI (fun i j => .int (i - j)) fun _ _ => True
theorem d_sub (ha : DE X c a wa) (hb : DE X c b wb) : DE X c (.BinOp a .Sub b pos) (w2 (v2 gSub) wa wb) := d_op op_sub (snd2 (ok_I0 fun _ _ => rfl)) ha hb
abbrev gMod := gI (fun i j => .int (i % j)) fun _ j => 0 < j
theorem d_mod (ha : DE X c a wa) (hb : DE X c b wb) : DE X c (.BinOp a .Mod b pos) (w2 (v2 gMod) wa wb) := d_op op_mod (snd2 (ok_I (fun _ _ => rfl) fun _ _ h => h)) ha hb
abbrev gDiv := gI (fun i j => .int (i / j)) fun _ j => 0 < j ∧ j < 1073741824
theorem d_fdiv (ha : DE X c a wa) (hb : DE X c b wb) : DE X c (.BinOp a .FloorDiv b pos) (w2 (v2 gDiv) wa wb) := d_op op_fdiv (snd2 (ok_I (fun _ _ => rfl) fun _ _ h => h)) ha hb
abbrev gPow := gI (fun i j => .int (i ^ j.toNat)) fun i j => 0 ≤ j ∧ j ≤ 1000000 ∧ i.natAbs < 2 ^ 64
theorem d_pow (ha : DE X c a wa) (hb : DE X c b wb) : DE X c (.BinOp a .Pow b pos) (w2 (v2 gPow) wa wb) := d_op op_pow (snd2 (ok_I (fun _ _ => rfl) fun _ _ h => h)) ha hb
def gMul : D → D → (R → Prop) → Prop := fun d e q => match d, e with
  | .int i, .int j => ((-(2 ^ 64) < i ∧ i < 2 ^ 64) ∨ (-(2 ^ 64) < j ∧ j < 2 ^ 64)) ∧ q (.im (.int (i * j)))
  | .list a, .int k => (-(2 ^ 62) ≤ k ∧ k ≤ 2 ^ 62 ∧ a.length * k.toNat ≤ 100000) ∧ q (.tmp (List.replicate k.toNat a).flatten)
  | _, _ => False
theorem ok_mul : Ok2 c (fun x y H Q => rI CMul (fun i j => .int (i * j)) x y H Q ∨ rRep x y H Q) gMul := fun G H σ ρ v v' r r' d e Qd Q rl rr rr' h1 h2 q hg => by
  cases d with
  | int i =>
    cases e with
    | int j =>
      have e1 := vw_int rl rr h1
      have e2 := vw_int rl rr' h2
      subst e1 e2
      exact .inl ⟨i, j, rfl, rfl, q.1, got_flat hg rl rfl q.2⟩
    | _ => exact q.elim
  | list xs =>
    cases e with
    | int k =>
      obtain ⟨a1, us, rfl, t1, p1⟩ := vw_lst rl rr h1
      have e2 := vw_int rl rr' h2
      subst e2
      obtain ⟨⟨k1, k2, k3⟩, q⟩ := q
      exact .inr ⟨a1, k, us, rfl, rfl, t1, by omega, by omega, szl (by rw [RpAll.length p1]; exact k3), got_lst hg rl (RpAll.repl _ p1) q⟩
    | _ => exact q.elim
  | _ => exact q.elim
theorem d_mul (ha : DE X c a wa) (hb : DE X c b wb) : DE X c (.BinOp a .Mult b pos) (w2 (v2 gMul) wa wb) := d_op (OpR.or op_mul op_rep) (snd2 ok_mul) ha hb
abbrev gNeg : D → (R → Prop) → Prop := fun d q => match d with
  | .int i => q (.im (.int (-i)))
  | _ => False
theorem d_neg (ha : DE X c a wa) : DE X c (.UnaryOp .USub a pos) (w1 (v1 gNeg) wa) := d_un un_neg (snd1 fun G H σ ρ v r d Qd Q rl rr h1 q hg => by
  cases d with
  | int i =>
    have e1 := vw_int rl rr h1
    subst e1
    exact ⟨i, rfl, got_flat hg rl rfl q⟩
  | _ => exact q.elim) ha

/-! comparisons -/
/-- a truth value kept shut, so that evaluation stops at it -/
@[irreducible] def hid (b : Bool) : Bool := b
theorem hid_eq (b : Bool) : hid b = b := by unfold hid; rfl
theorem flat_hid (b : Bool) : flatD (V.bl b) = some (PyData.bool (hid b)) := by rw [hid_eq]; rfl
abbrev gLt := gI (fun i j => .bool (hid (decide (i < j)))) fun _ _ => True
abbrev gLe := gI (fun i j => .bool (hid (decide (i ≤ j)))) fun _ _ => True
abbrev gGt := gI (fun i j => .bool (hid (decide (j < i)))) fun _ _ => True
abbrev gGe := gI (fun i j => .bool (hid (decide (j ≤ i)))) fun _ _ => True
theorem d_lt (ha : DE X c a wa) (hb : DE X c b wb) : DE X c (.Compare a [.Lt] [b] pos) (w2 (v2 gLt) wa wb) := d_cmp op_lt (snd2 (ok_I0 fun _ _ => flat_hid _)) ha hb (nomark _)
theorem d_le (ha : DE X c a wa) (hb : DE X c b wb) : DE X c (.Compare a [.LtE] [b] pos) (w2 (v2 gLe) wa wb) := d_cmp op_le (snd2 (ok_I0 fun _ _ => flat_hid _)) ha hb (nomark _)
theorem d_gt (ha : DE X c a wa) (hb : DE X c b wb) : DE X c (.Compare a [.Gt] [b] pos) (w2 (v2 gGt) wa wb) := d_cmp op_gt (snd2 (ok_I0 fun _ _ => flat_hid _)) ha hb (nomark _)
theorem d_ge (ha : DE X c a wa) (hb : DE X c b wb) : DE X c (.Compare a [.GtE] [b] pos) (w2 (v2 gGe) wa wb) := d_cmp op_ge (snd2 (ok_I0 fun _ _ => flat_hid _)) ha hb (nomark _)
theorem d_tlt (ha : DE X c a wa) (hb : DE X c b wb) : DT X c (.Compare a [.Lt] [b] pos) (wT (w2 (v2 gLt) wa wb)) := d_tcmp op_lt (snd2 (ok_I0 fun _ _ => flat_hid _)) ha hb (nomark _)
theorem d_tle (ha : DE X c a wa) (hb : DE X c b wb) : DT X c (.Compare a [.LtE] [b] pos) (wT (w2 (v2 gLe) wa wb)) := d_tcmp op_le (snd2 (ok_I0 fun _ _ => flat_hid _)) ha hb (nomark _)
theorem d_tgt (ha : DE X c a wa) (hb : DE X c b wb) : DT X c (.Compare a [.Gt] [b] pos) (wT (w2 (v2 gGt) wa wb)) := d_tcmp op_gt (snd2 (ok_I0 fun _ _ => flat_hid _)) ha hb (nomark _)
theorem d_tge (ha : DE X c a wa) (hb : DE X c b wb) : DT X c (.Compare a [.GtE] [b] pos) (wT (w2 (v2 gGe) wa wb)) := d_tcmp op_ge (snd2 (ok_I0 fun _ _ => flat_hid _)) ha hb (nomark _)
/-- a list of ints -/
def intsOf : List D → Option (List Int)
  | [] => some []
  | .int i :: ds => (intsOf ds).map (i :: ·)
  | _ => none
theorem intsOf_map : ∀ {ds : List D} {ns : List Int}, intsOf ds = some ns → ds = ns.map PyData.int
  | [], ns, h => by cases h; rfl
  | d :: ds, ns, h => by
    cases d with
    | int i =>
      have h' : (intsOf ds).map (i :: ·) = some ns := h
      cases e : intsOf ds with
      | none => rw [e] at h'; cases h'
      | some ms =>
        rw [e] at h'
        cases h'
        rw [List.map_cons, intsOf_map e]
    | _ => cases h
theorem intsOf_ints : ∀ ns : List Int, intsOf (ns.map PyData.int) = some ns
  | [] => rfl
  | n :: ns => by
    show (intsOf (ns.map PyData.int)).map (n :: ·) = _
    rw [intsOf_ints ns]
    rfl
/-- how the script is shown -/
def scrOf : List (D × D) → Option (List Int)
  | [(.none, .list ds)] => intsOf ds
  | _ => none
def Shp (d : D) : Prop := SeqAt.shaped d = true ∧ d.hasDict = false
def gEq : D → D → (R → Prop) → Prop := fun d e q => match d, e with
  | .str a, .str b => q (.im (.bool (hid (decide (a = b)))))
  | d, e => (Shp d ∧ Shp e) ∧ q (.im (.bool (hid (PyData.eqv d e))))
def gNe : D → D → (R → Prop) → Prop := fun d e q => match d, e with
  | .str a, .str b => q (.im (.bool (hid (!decide (a = b)))))
  | d, e => (Shp d ∧ Shp e) ∧ q (.im (.bool (hid (!PyData.eqv d e))))
theorem two_str (d e : D) : (∃ a b, d = .str a ∧ e = .str b) ∨ ¬ ∃ a b, d = .str a ∧ e = .str b := Classical.em _
theorem dec_str (a b : Str) : decide (V.str a = V.str b) = decide (a = b) := by
  by_cases h : a = b
  · subst h
    rw [decide_eq_true rfl, decide_eq_true rfl]
  · rw [decide_eq_false h, decide_eq_false fun z => h (V.str.inj z)]
theorem gEq_ne {d e : D} {q : R → Prop} (n : ¬ ∃ a b, d = .str a ∧ e = .str b) (h : gEq d e q) : (Shp d ∧ Shp e) ∧ q (.im (.bool (hid (PyData.eqv d e)))) := by
  unfold gEq at h
  split at h
  · exact (n ⟨_, _, rfl, rfl⟩).elim
  · exact h
theorem gNe_ne {d e : D} {q : R → Prop} (n : ¬ ∃ a b, d = .str a ∧ e = .str b) (h : gNe d e q) : (Shp d ∧ Shp e) ∧ q (.im (.bool (hid (!PyData.eqv d e)))) := by
  unfold gNe at h
  split at h
  · exact (n ⟨_, _, rfl, rfl⟩).elim
  · exact h
theorem ok_eq : Ok2 c (fun x y H Q => rEqD c.K x y H Q ∨ rEq x y H Q) gEq := fun G H σ ρ v v' r r' d e Qd Q rl rr rr' h1 h2 q hg => by
  rcases two_str d e with ⟨a, b, rfl, rfl⟩ | n
  · have e1 : v = .str a := vw_flat rl rr h1 rfl
    have e2 : v' = .str b := vw_flat rl rr' h2 rfl
    subst e1 e2
    refine .inr ⟨rfl, ?_⟩
    rw [dec_str]
    exact got_flat hg rl (flat_hid _) q
  · have q := gEq_ne n q
    exact .inl ⟨d, e, Rp.dp _ _ (vw_ok rl rr h1) q.1.1.2, Rp.dp _ _ (vw_ok rl rr' h2) q.1.2.2, q.1.1.1, q.1.2.1, got_flat hg rl (flat_hid _) q.2⟩
theorem ok_ne : Ok2 c (fun x y H Q => rNeD c.K x y H Q ∨ rNe x y H Q) gNe := fun G H σ ρ v v' r r' d e Qd Q rl rr rr' h1 h2 q hg => by
  rcases two_str d e with ⟨a, b, rfl, rfl⟩ | n
  · have e1 : v = .str a := vw_flat rl rr h1 rfl
    have e2 : v' = .str b := vw_flat rl rr' h2 rfl
    subst e1 e2
    refine .inr ⟨rfl, ?_⟩
    rw [dec_str]
    exact got_flat hg rl (flat_hid _) q
  · have q := gNe_ne n q
    exact .inl ⟨d, e, Rp.dp _ _ (vw_ok rl rr h1) q.1.1.2, Rp.dp _ _ (vw_ok rl rr' h2) q.1.2.2, q.1.1.1, q.1.2.1, got_flat hg rl (flat_hid _) q.2⟩
theorem Rm.u64 {k : Nat} {A : Around} (h : Rm k A) : A.units + 64 < cLine := h.r.units
theorem Rm.u66 {k : Nat} {A : Around} (h : Rm k A) : A.units + 66 < cLine := by have := h.r.un; omega
variable {k : Nat}
theorem d_eq (hr : Rm k X.A) (ha : DE X c a wa) (hb : DE X c b wb) (hK : X.K = c.K := by rfl) : DE X c (.Compare a [.Eq] [b] pos) (w2 (v2 gEq) wa wb) := d_cmp (OpR.or (op_eqD hr.u64) op_eq) (snd2 (by rw [hK]; exact ok_eq)) ha hb (nomark _)
theorem d_ne (hr : Rm k X.A) (ha : DE X c a wa) (hb : DE X c b wb) (hK : X.K = c.K := by rfl) : DE X c (.Compare a [.NotEq] [b] pos) (w2 (v2 gNe) wa wb) := d_cmp (OpR.or (op_neD hr.u64) op_ne) (snd2 (by rw [hK]; exact ok_ne)) ha hb (nomark _)
theorem d_teq (hr : Rm k X.A) (ha : DE X c a wa) (hb : DE X c b wb) (hK : X.K = c.K := by rfl) : DT X c (.Compare a [.Eq] [b] pos) (wT (w2 (v2 gEq) wa wb)) := d_tcmp (OpR.or (op_eqD hr.u64) op_eq) (snd2 (by rw [hK]; exact ok_eq)) ha hb (nomark _)
theorem d_tne (hr : Rm k X.A) (ha : DE X c a wa) (hb : DE X c b wb) (hK : X.K = c.K := by rfl) : DT X c (.Compare a [.NotEq] [b] pos) (wT (w2 (v2 gNe) wa wb)) := d_tcmp (OpR.or (op_neD hr.u64) op_ne) (snd2 (by rw [hK]; exact ok_ne)) ha hb (nomark _)
def gIn (neg : Bool) : D → D → (R → Prop) → Prop := fun d e q => match e with
  | .list ds => (Shp d ∧ Shp (.list ds)) ∧ q (.im (.bool (hid (if neg then !ds.any (fun z => PyData.eqv z d) else ds.any fun z => PyData.eqv z d))))
  | .tuple ds => (Shp d ∧ Shp (.tuple ds)) ∧ q (.im (.bool (hid (if neg then !ds.any (fun z => PyData.eqv z d) else ds.any fun z => PyData.eqv z d))))
  | _ => False
theorem ok_in {neg : Bool} : Ok2 c (rInA neg c.K) (gIn neg) := fun G H σ ρ v v' r r' d e Qd Q rl rr rr' h1 h2 q hg => by
  cases e with
  | list ds => exact ⟨d, _, ds, Rp.dp _ _ (vw_ok rl rr h1) q.1.1.2, Rp.dp _ _ (vw_ok rl rr' h2) q.1.2.2, .inl rfl, q.1.1.1, q.1.2.1, got_flat hg rl (flat_hid _) q.2⟩
  | tuple ds => exact ⟨d, _, ds, Rp.dp _ _ (vw_ok rl rr h1) q.1.1.2, Rp.dp _ _ (vw_ok rl rr' h2) q.1.2.2, .inr rfl, q.1.1.1, q.1.2.1, got_flat hg rl (flat_hid _) q.2⟩
  | _ => exact q.elim
theorem d_in (hr : Rm k X.A) (ha : DE X c a wa) (hb : DE X c b wb) (hm : behindInMarks .In b = false := by rfl) (hK : X.K = c.K := by rfl) : DE X c (.Compare a [.In] [b] pos) (w2 (v2 (gIn false)) wa wb) := d_cmp (op_inA hr.u66) (snd2 (by rw [hK]; exact ok_in)) ha hb hm
theorem d_nin (hr : Rm k X.A) (ha : DE X c a wa) (hb : DE X c b wb) (hm : behindInMarks .NotIn b = false := by rfl) (hK : X.K = c.K := by rfl) : DE X c (.Compare a [.NotIn] [b] pos) (w2 (v2 (gIn true)) wa wb) := d_cmp (op_ninA hr.u66) (snd2 (by rw [hK]; exact ok_in)) ha hb hm
theorem d_tin (hr : Rm k X.A) (ha : DE X c a wa) (hb : DE X c b wb) (hm : behindInMarks .In b = false := by rfl) (hK : X.K = c.K := by rfl) : DT X c (.Compare a [.In] [b] pos) (wT (w2 (v2 (gIn false)) wa wb)) := d_tcmp (op_inA hr.u66) (snd2 (by rw [hK]; exact ok_in)) ha hb hm
theorem d_tnin (hr : Rm k X.A) (ha : DE X c a wa) (hb : DE X c b wb) (hm : behindInMarks .NotIn b = false := by rfl) (hK : X.K = c.K := by rfl) : DT X c (.Compare a [.NotIn] [b] pos) (wT (w2 (v2 (gIn true)) wa wb)) := d_tcmp (op_ninA hr.u66) (snd2 (by rw [hK]; exact ok_in)) ha hb hm
/-- is None -/
def gIsN (neg : Bool) : D → D → (R → Prop) → Prop := fun d e q => match e with
  | .none => (match d with
    | .none => q (.im (.bool (!neg)))
    | _ => q (.im (.bool neg)))
  | _ => False
theorem isN_val {K : PySem.W.Frag} {H : Hp} {v : V} {d : D} (h : Rp K H v d) : decide (v = .non) = (match d with
    | .none => true
    | _ => false) := by cases h <;> rfl
theorem ok_isN : Ok2 c (fun x y H Q => y = .non ∧ Q (.bl (decide (x = .non))) H) (gIsN false) := fun G H σ ρ v v' r r' d e Qd Q rl rr rr' h1 h2 q hg => by
  cases e with
  | none =>
    have e2 : v' = .non := vw_flat rl rr' h2 rfl
    refine ⟨e2, ?_⟩
    rw [isN_val (vw_ok rl rr h1)]
    cases d <;> exact got_flat hg rl rfl q
  | _ => exact q.elim
theorem ok_notN : Ok2 c (fun x y H Q => y = .non ∧ Q (.bl (!decide (x = .non))) H) (gIsN true) := fun G H σ ρ v v' r r' d e Qd Q rl rr rr' h1 h2 q hg => by
  cases e with
  | none =>
    have e2 : v' = .non := vw_flat rl rr' h2 rfl
    refine ⟨e2, ?_⟩
    rw [isN_val (vw_ok rl rr h1)]
    cases d <;> exact got_flat hg rl rfl q
  | _ => exact q.elim
theorem d_isN (ha : DE X c a wa) (hb : DE X c b wb) : DE X c (.Compare a [.Is] [b] pos) (w2 (v2 (gIsN false)) wa wb) := d_cmp op_isN (snd2 ok_isN) ha hb (nomark _)
theorem d_notN (ha : DE X c a wa) (hb : DE X c b wb) : DE X c (.Compare a [.IsNot] [b] pos) (w2 (v2 (gIsN true)) wa wb) := d_cmp op_notN (snd2 ok_notN) ha hb (nomark _)
theorem d_tisN (ha : DE X c a wa) (hb : DE X c b wb) : DT X c (.Compare a [.Is] [b] pos) (wT (w2 (v2 (gIsN false)) wa wb)) := d_tcmp op_isN (snd2 ok_isN) ha hb (nomark _)
theorem d_tnotN (ha : DE X c a wa) (hb : DE X c b wb) : DT X c (.Compare a [.IsNot] [b] pos) (wT (w2 (v2 (gIsN true)) wa wb)) := d_tcmp op_notN (snd2 ok_notN) ha hb (nomark _)

/-! subscripts -/
def gIx : D → D → (R → Prop) → Prop := fun d e q => match d, e with
  | .list ds, .int i => (match atI ds i with
    | some x => q (.im x)
    | none => False)
  | .tuple ds, .int i => (match atI ds i with
    | some x => q (.im x)
    | none => False)
  | _, _ => False
theorem atI_rp {K : PySem.W.Frag} {G : Hp} {vs : List V} {ds : List D} {i : Int} {x : D} (h : RpAll K G vs ds) (e : atI ds i = some x) : ∃ v, atI vs i = some v ∧ Rp K G v x := by
  unfold atI at e ⊢
  rw [RpAll.length h]
  cases e1 : ixN ds.length i with
  | none => rw [e1] at e; cases e
  | some j =>
    rw [e1] at e
    exact RpAll.get h e
theorem ok_ix : Ok2 c (fun x y H Q => rIxL c.K x y H Q ∨ rIxT c.K x y H Q) gIx := fun G H σ ρ v v' r r' d e Qd Q rl rr rr' h1 h2 q hg => by
  cases d with
  | list ds =>
    cases e with
    | int i =>
      obtain ⟨a1, us, rfl, t1, p1⟩ := vw_lst rl rr h1
      have e2 := vw_int rl rr' h2
      subst e2
      have q' : (match atI ds i with
        | some x => Qd (.im x) ρ
        | none => False) := q
      cases e3 : atI ds i with
      | none => rw [e3] at q'; exact q'.elim
      | some x =>
        rw [e3] at q'
        obtain ⟨u, h3, h4⟩ := atI_rp p1 e3
        exact .inl ⟨a1, us, i, u, rfl, rfl, SqL.of t1, h3, got_known hg rl h4 q'⟩
    | _ => exact q.elim
  | tuple ds =>
    cases e with
    | int i =>
      obtain ⟨a1, us, rfl, t1, p1⟩ := vw_tup rl rr h1
      have e2 := vw_int rl rr' h2
      subst e2
      have q' : (match atI ds i with
        | some x => Qd (.im x) ρ
        | none => False) := q
      cases e3 : atI ds i with
      | none => rw [e3] at q'; exact q'.elim
      | some x =>
        rw [e3] at q'
        obtain ⟨u, h3, h4⟩ := atI_rp p1 e3
        exact .inr ⟨a1, us, i, u, rfl, rfl, (t1.mono rl.ext).sq, h3, got_known hg rl h4 q'⟩
    | _ => exact q.elim
  | _ => exact q.elim
theorem d_sub1 (ha : DE X c a wa) (hb : DE X c b wb) (hs : PlainIx b := by exact fun _ _ => rfl) (hK : X.K = c.K := by rfl) : DE X c (.Subscript a b pos) (w2 (v2 gIx) wa wb) := d_ix (IxR.or ix_list ix_tup) (snd2 (by rw [hK]; exact ok_ix)) ha hb hs
/-- xs[::-1] -/
def gBack : D → (R → Prop) → Prop := fun d q => match d with
  | .list ds => q (.tmp ds.reverse)
  | .tuple ds => q (.im (.tuple ds.reverse))
  | _ => False
theorem d_back {kk : Nat} {p1 p2 p3 : Pos} (ha : DE X c a wa) (hK : X.K = c.K := by rfl) : DE X c (.Subscript a (.Slice none none (some (.UnaryOp .USub (.Constant (.int 1) kk p1) p2)) p3) pos) (w1 (v1 gBack) wa) :=
  PEw (pe_back ha) fun σ H Q h => le1 (op := fun x H1 Q => ∃ a xs, x = .ref a ∧ ((SqL X.K H1 a xs ∧ ∀ p, H1 p = none → Q (.ref p) (upd H1 p (.lst xs.reverse))) ∨ (SqT X.K H1 a xs ∧ rNewT xs.reverse H1 Q))) (snd1 fun G H σ ρ v r d Qd Q rl rr h1 q hg => by
    cases d with
    | list ds =>
      obtain ⟨a1, us, rfl, t1, p1⟩ := vw_lst rl rr h1
      exact ⟨a1, us, rfl, .inl ⟨SqL.of t1, got_lst hg rl (RpAll.reverse p1) q⟩⟩
    | tuple ds =>
      obtain ⟨a1, us, rfl, t1, p1⟩ := vw_tup rl rr h1
      rw [hK]
      exact ⟨a1, us, rfl, .inr ⟨(t1.mono rl.ext).sq, got_tup hg rl (RpAll.reverse p1) q⟩⟩
    | _ => exact q.elim) h
/-- a slice's part -/
abbrev WO := Rn → (Option Int → Rn → Prop) → (Xn → Prop) → Prop
def LO (c : Ct) (w : WO) : TO := fun σ H Q => ∃ G ρ Qd Qx, Rel c.K c.pa c.le G H σ ρ ∧ w ρ Qd Qx ∧ (∀ o ρ' G' H', Nw c.K c.pa c.le G H σ ρ G' H' σ ρ' → Qd o ρ' → Q o H') ∧ LX c G H σ ρ Qx
abbrev DO (X : Cx) (c : Ct) (e : Option Expr) (w : WO) : Prop := PO X e (LO c w)
theorem POw {o : Option Expr} {t t' : TO} (h : PO X o t) (i : ∀ σ H Q, t' σ H Q → t σ H Q) : PO X o t' := ⟨fun pins s σ H Q I hq => h.run pins s σ H Q I (i σ H Q hq)⟩
def wON : WO := fun ρ Qd _ => Qd none ρ
def wOS (we : WE) : WO := fun ρ Qd Qx => we ρ (fun r ρ1 => match vw ρ1 r with
  | some (.int i) => Qd (some i) ρ1
  | _ => False) Qx
theorem d_oN : DO X c none wON := POw po_none fun σ H Q ⟨G, ρ, Qd, Qx, rl, hw, hQ, hX⟩ => hQ none ρ G H (Nw.refl rl) hw
theorem d_oS {we : WE} (h : DE X c e we) : DO X c (some e) (wOS we) := POw (po_some h) fun σ H Q ⟨G, ρ, Qd, Qx, rl, hw, hQ, hX⟩ => ⟨G, ρ, _, Qx, rl, hw, fun v r ρ1 G1 H1 n1 rr fr q => by
  have q' : (match vw ρ1 r with
    | some (.int i) => Qd (some i) ρ1
    | _ => False) := q
  cases e1 : vw ρ1 r with
  | none => rw [e1] at q'; exact q'.elim
  | some d =>
    rw [e1] at q'
    cases d with
    | int i => exact ⟨i, vw_int n1.r rr e1, hQ _ ρ1 G1 H1 n1 q'⟩
    | _ => exact q'.elim, hX⟩
def cutD (ds : List D) (lo hi : Option Int) : List D := (ds.drop (HT.sIx ds.length 0 lo)).take (HT.sIx ds.length ds.length hi - HT.sIx ds.length 0 lo)
theorem cut_rp {K : PySem.W.Frag} {G : Hp} {vs : List V} {ds : List D} {lo hi : Option Int} (h : RpAll K G vs ds) : RpAll K G (cutV vs lo hi) (cutD ds lo hi) := by
  unfold cutV cutD
  rw [RpAll.length h]
  exact RpAll.take _ (RpAll.drop _ h)
def gSl (lo hi : Option Int) : D → (R → Prop) → Prop := fun d q => match d with
  | .list ds => q (.tmp (cutD ds lo hi))
  | .tuple ds => q (.im (.tuple (cutD ds lo hi)))
  | .dict kvs => (match scrOf kvs with
    | some ns => q (.tmp (cutD (ns.map PyData.int) lo hi))
    | none => False)
  | _ => False
/-- the script's numbers -/
theorem scrOf_key {k : Key} {d : D} {r : List (D × D)} {ns : List Int} (h : scrOf ((keyDt k, d) :: r) = some ns) : False := by
  cases k <;> (cases r <;> (try (cases d)) <;> cases h)
theorem vw_scr {c : Ct} {G H : Hp} {σ : L2.St} {ρ : Rn} {v : V} {r : R} {kvs : List (D × D)} {ns : List Int} (rl : Rel c.K c.pa c.le G H σ ρ) (h : RR c.K c.pa G H σ ρ v r) (e : vw ρ r = some (.dict kvs)) (hs : scrOf kvs = some ns) : ∃ a, v = .ref a ∧ SqL c.K H a (ns.map V.int) := by
  have q := vw_ok rl h e
  cases q with
  | scr h1 =>
    rename_i a ns'
    have : some ns' = some ns := (intsOf_ints ns').symm.trans hs
    cases this
    exact ⟨a, rfl, h1⟩
  | dfl h1 h2 =>
    cases h2 with
    | nil => cases hs
    | cons h3 h4 => exact (scrOf_key hs).elim
def wSl (we : WE) (wl wh : WO) : WE := fun ρ Qd Qx => we ρ (fun r ρ1 => wl ρ1 (fun lo ρ2 => wh ρ2 (fun hi ρ3 => v1 (gSl lo hi) (pin r) ρ3 Qd) Qx) Qx) Qx
theorem ok_sl {lo hi : Option Int} : Ok1 c (fun x H Q => rSlL c.K x lo hi H Q ∨ rSlF c.K x lo hi H Q) (gSl lo hi) := fun G H σ ρ v r d Qd Q rl rr h1 q hg => by
  cases d with
  | list ds =>
    obtain ⟨a1, us, rfl, t1, p1⟩ := vw_lst rl rr h1
    exact .inl ⟨a1, us, rfl, SqL.of t1, got_lst hg rl (cut_rp p1) q⟩
  | tuple ds =>
    obtain ⟨a1, us, rfl, t1, p1⟩ := vw_tup rl rr h1
    refine .inr ⟨a1, us, rfl, (t1.mono rl.ext).sq, fun ⟨z1, z2⟩ => ?_, fun _ => got_tup hg rl (cut_rp p1) q⟩
    have e : cutD ds lo hi = ds := by
      rw [RpAll.length p1] at z1 z2
      unfold cutD
      rw [z1, z2, List.drop_zero, Nat.sub_zero, List.take_length]
    have q' : Qd (.im (.tuple (cutD ds lo hi))) ρ := q
    rw [e] at q'
    exact got_known hg rl (.tup t1 p1) q'
  | dict kvs =>
    have q' : (match scrOf kvs with
      | some ns => Qd (.tmp (cutD (ns.map PyData.int) lo hi)) ρ
      | none => False) := q
    cases e2 : scrOf kvs with
    | none => rw [e2] at q'; exact q'.elim
    | some ns =>
      obtain ⟨a1, rfl, t1⟩ := vw_scr rl rr h1 e2
      rw [e2] at q'
      exact .inl ⟨a1, _, rfl, t1, got_lst hg rl (cut_rp (RpAll.ints ns)) q'⟩
  | _ => exact q.elim
theorem d_slice {lo hi : Option Expr} {we : WE} {wl wh : WO} {p2 : Pos} (he : DE X c e we) (hl : DO X c lo wl) (hh : DO X c hi wh) (hK : X.K = c.K := by rfl) : DE X c (.Subscript e (.Slice lo hi none p2) pos) (wSl we wl wh) :=
  PEw (pe_slice (SlR.or sl_list sl_tupF) he hl hh) fun σ H Q ⟨G, ρ, Qd, Qx, rl, hw, hQ, hX⟩ => by
    refine ⟨G, ρ, _, Qx, rl, hw, fun v r ρ1 G1 H1 n1 rr fr q => ?_, hX⟩
    obtain ⟨G2, n2, _, rr2⟩ := n1.pin rl rr fr
    refine ⟨G2, ρ1, _, Qx, n2.r, q, fun o ρ3 G3 H3 n3 q3 => ?_, hX.trans rl n2⟩
    refine ⟨G3, ρ3, _, Qx, n3.r, q3, fun o' ρ4 G4 H4 n4 q4 => ?_, hX.trans rl (n2.trans rl n3)⟩
    have n5 := n2.trans rl (n3.trans n2.r n4)
    rw [hK]
    exact snd1 ok_sl _ _ _ _ _ _ Qd Q n5.r (pin_calm r) (calm_RR (pin_calm r) (n3.trans n2.r n4).a.g rr2) q4 fun v' r' ρ' G' H' n6 rr6 fr6 q6 => hQ v' r' ρ' G' H' (n5.trans rl n6) rr6 (fr6.trans n5) q6
end
end Tr

namespace Tr
open PySem L2

/-! ### enumerate of a tuple -/
theorem meetsEnum1 {v : Value} {o : Obj} {Hh : Heap → Prop} (B : Begins v o Hh) : Meets (Builtin.«enumerate.__new__» ⟨[.type "enumerate", v], []⟩) (fun _ R s => Hh s.heap ∧
      R (.ok (.ret (.ref (s.heap.push o).objs.size))) { s with heap := (s.heap.push o).push { cls := .type "enumerate", data := .fields #[.none, .bool false, .ref s.heap.objs.size, rawInt 0, .none, .none] } }) :=
  .of_wp fun prog w A R s h => by
    obtain ⟨hp, g, d, tk, os⟩ := s
    obtain ⟨h1, h2⟩ := h
    have hsub := sub_enumerate
    have q1 : ∀ {A' : Around} {E Q : Value → Shared → Prop}, Q (.ref hp.objs.size) ⟨hp.push o, g, d, tk, os⟩ → wpAny (model prog w) A' (pyIter v) Q E ⟨hp, g, d, tk, os⟩ := fun q => B.iter prog w _ _ _ _ h1 q
    wp_walk using q1
    refine wpAny_stack_any fun st => (wpAny_pure ?_)
    split
    · rename_i c _ _ _ _ _
      cases (c == Value.type "enumerate") <;> (wp_walk using q1; exact ⟨_, rfl, h2⟩)
    · wp_walk using q1
      exact ⟨_, rfl, h2⟩
theorem callEnum1 {prog : Program} {w : World} {A : Around} {E : Value → Shared → Prop} {s : Shared} {v : Value} {o : Obj} {Hh : Heap → Prop} {Q : Value → Shared → Prop} (B : Begins v o Hh) (h1 : Hh s.heap)
    (h : ∀ h', IsEnum h' (s.heap.objs.size + 1) s.heap.objs.size 0 .none → h'.get? s.heap.objs.size = some o → (∀ b u, s.heap.get? b = some u → h'.get? b = some u) → Q (.ref (s.heap.objs.size + 1)) { s with heap := h' }) :
    wpAny (model prog w) A (call (.type "enumerate") [v]) Q E s := by
  refine callType_new F.called_enumerate (by decide) (F.typeCall_enumerate_1 _) (F.newCall_enumerate_1 _) (fun obj => F.args_object_init_2 obj _) F.entry_enumerate_new (meetsEnum1 B) ⟨h1, ?_⟩
  have hz : (s.heap.push o).objs.size = s.heap.objs.size + 1 := Heap.size_push ..
  show _ ∧ _
  rw [hz]
  have he : IsEnum ((s.heap.push o).push { cls := .type "enumerate", data := .fields #[.none, .bool false, .ref s.heap.objs.size, rawInt 0, .none, .none] }) (s.heap.objs.size + 1) s.heap.objs.size 0 .none := by
    have e := Heap.get?_push_size (s.heap.push o) (o := { cls := .type "enumerate", data := .fields #[.none, .bool false, .ref s.heap.objs.size, rawInt 0, .none, .none] }) rfl
    rw [hz] at e
    exact e
  exact ⟨⟨_, he, rfl⟩, h _ he (Heap.get?_push_of_some _ (Heap.get?_push_size _ B.free)) fun b u x => Heap.get?_push_of_some _ (Heap.get?_push_of_some _ x)⟩

/-- the tuple at a, its items in new pairs with their places -/
def Itet (K : PySem.W.Frag) (a : Addr) : It :=
  ⟨fun i H => ∃ xs x, SqT K H a xs ∧ xs[i]? = some x, fun i H v H' => ∃ T x, v = .ref T ∧ H T = none ∧ H' = upd H T (.tup [.int (i : Nat), x]) ∧ ∀ xs, SqT K H a xs → xs[i]? = some x, fun i H => ∃ xs, SqT K H a xs ∧ xs.length = i⟩
theorem turnEnumT {P : Program} {w : World} {K : PySem.W.Frag} {elts : List Expr} {kk : Nat} {tpos : Pos} (a e it : Addr) :
    Turn P w K (.Tuple elts kk tpos) (Itet K a) [e, it] e (fun i h => (∃ old, IsEnum h e it ((i : Nat) : Int) old) ∧ h.IsTupleIter it a i ∧ e ≠ it ∧ e ≠ a ∧ it ≠ a) where
  mem := by simp
  obj := fun i h st b hb => by
    obtain ⟨⟨old, he⟩, ⟨o, ho, hc, hd⟩, _⟩ := st
    have e' : b = e ∨ b = it := by simpa using hb
    rcases e' with rfl | rfl
    · exact ⟨_, he, fun v q => nomatch q⟩
    · exact ⟨o, ho, fun v q => by rw [hd] at q; cases q⟩
  keep := fun i h h' st k => by
    obtain ⟨⟨old, he⟩, hi, hn⟩ := st
    exact ⟨⟨old, k e (by simp) _ he⟩, hi.at fun o q => k it (by simp) o q, hn⟩
  item := by
    intro X hP hw hK hc i pins s σ H E I hf st hg
    subst hP hw hK
    obtain ⟨⟨old, he⟩, hit, hne, hea, hia⟩ := st
    obtain ⟨xs, x, hq, hx⟩ := hg
    obtain ⟨its, rv, p, hz⟩ := I.tuple hq
    obtain ⟨u, hu, ru⟩ := rv.get hx
    have hel : e < s.heap.objs.size := Heap.lt_size he
    have hil : it < s.heap.objs.size := by
      obtain ⟨_, q, _⟩ := hit
      exact Heap.lt_size q
    have hlt : i < its.toArray.size := by
      rw [List.size_toArray]
      exact (List.getElem?_eq_some_iff.mp hu).1
    refine wpAny_pyNext_enum_itemD (Draws.tuple (A := X.A.in1) (show X.A.in1.handled = none from I.ok.hd hc) it a (Ne.symm hia) its.toArray) he ⟨hit, p⟩ hlt hne (by simp [hne, hea]) fun y h' tk hy ho hs' hT hsz hk => ?_
    have ey : y = u := by
      have hy' : its.toArray[i]? = some y := hy
      rw [List.getElem?_toArray, hu] at hy'
      exact (Option.some.inj hy').symm
    subst ey
    refine ⟨_, rfl, wpAny_letOwnedTupleGo_enum (s := { s with heap := h', toks := tk + 1 }) ho fun h'' he' sb => ?_⟩
    have hT2 : h''.get? s.heap.objs.size = some { cls := .type "tuple", data := .seq #[.int i tk, y] } := (sb.2 _ (Nat.ne_of_gt hel)).trans hT
    have new : ObjOk X.prog X.w (upd H s.heap.objs.size (.tup [.int (i : Nat), x])) h'' s.heap.objs.size (.tup [.int (i : Nat), x]) :=
      ⟨(by decide : 2 ≤ sizeLine), [.int i tk, y], .cons ⟨_, rfl⟩ (.cons ru .nil), _, hT2, rfl, _, rfl⟩
    have I1 : Inv X pins σ (upd H s.heap.objs.size (.tup [.int (i : Nat), x])) { s with heap := h'', toks := tk + 1 } :=
      I.turnedNew (ch := [e, it]) (fun b ob hb q => (sb.2 b fun z => hb (by simp [z])).trans (hk b ob (fun z => hb (by simp [z])) (fun z => hb (by simp [z])) q)) hf (Nat.le_refl _) new
    have e1 : ((i + 1 : Nat) : Int) = (i : Int) + 1 := by omega
    refine ⟨.ref s.heap.objs.size, _, I1, rfl, ⟨_, x, rfl, I.hok.fresh (Nat.le_refl _), rfl, fun ys hys => by rw [I.tuple_inj hys hq]; exact hx⟩, ⟨⟨y, by rw [e1]; exact he'⟩, hs'.1.at fun o q => (sb.2 it (Ne.symm hne)).trans q, hne, hea, hia⟩, fun b hb => ?_⟩
    have hb' : b < s.heap.objs.size := by
      have e' : b = e ∨ b = it := by simpa using hb
      rcases e' with z | z <;> rw [z] <;> assumption
    rw [upd_ne (Nat.ne_of_lt hb')]
    exact (hf b hb).1
  done := by
    intro X hP hw hK hc i pins s σ H E I hf st hg
    subst hP hw hK
    obtain ⟨⟨old, he⟩, hit, hne, hea, hia⟩ := st
    obtain ⟨xs, hq, hx⟩ := hg
    obtain ⟨its, rv, p, hz⟩ := I.tuple hq
    obtain ⟨f0, f1, f2, f3, f4, f5⟩ := hf it (by simp)
    have hl := rv.length
    have en : its.toArray.size = i := by rw [List.size_toArray, ← hl, hx]
    refine wpAny_pyNext_enum_endD (Draws.tuple (A := X.A.in1) (show X.A.in1.handled = none from I.ok.hd hc) it a (Ne.symm hia) its.toArray) he ⟨by rw [en]; exact hit, p⟩ fun h' eb => ⟨rfl, ?_⟩
    exact I.turned (t' := s.toks) (fun b o hb q => eb b o hb q) f0 f1 f3 f4 f5
  self := fun A i s Q E st h => by
    obtain ⟨⟨_, he⟩, _⟩ := st
    exact wpAny_pyIter_enum he h
/-! ### what is walked, over data -/
section
variable {X : Cx} {c : Ct} {tg e a b : Expr} {p pos : Pos}
def iSeq (K : PySem.W.Frag) (tl : TE) : TI := fun σ H R => tl σ H fun x H1 => ∃ a, x = .ref a ∧ (((∃ xs, SqL K H1 a xs) ∧ R (Itl K a) H1) ∨ ((∃ xs, SqT K H1 a xs) ∧ R (Itt K a) H1))
theorem pi_seq {l : Expr} {tl : TE} (hl : PE X l tl) : PI X tg l (iSeq X.K tl) := by
  refine ⟨fun pins s σ H R I h => thn (hl.run pins s σ H _ I h) fun v s1 hv => ?_⟩
  obtain ⟨x, H1, I1, r1, a, rfl, q⟩ := hv
  cases r1
  have keep : ∀ {o : Obj}, ∀ b u, s1.heap.get? b = some u → (s1.heap.push o).get? b = some u := fun b u e => Heap.get?_push_of_some _ e
  have mine : ∀ b ∈ [s1.heap.objs.size], FpOk X pins H1 b := fun b hb => by
    rw [List.mem_singleton.mp hb]
    exact I1.fpOk (Nat.le_refl _) (I1.hok.fresh (Nat.le_refl _))
  rcases q with ⟨⟨xs, hq⟩, q⟩ | ⟨⟨xs, hq⟩, q⟩
  · obtain ⟨its, rv, pl, hz⟩ := I1.list hq
    refine wpAny_pyIter_list pl.isList ⟨s1.heap.objs.size, _, _, _, H1, rfl, I1.kept (t' := s1.toks) keep, turn_list a _, ?_, mine, q⟩
    exact ⟨_, Heap.get?_push_size _ rfl, rfl, rfl⟩
  · obtain ⟨its, rv, pl, hz⟩ := I1.tuple hq
    refine wpAny_pyIter_tuple (items := its.toArray) pl ⟨s1.heap.objs.size, _, _, _, H1, rfl, I1.kept (t' := s1.toks) keep, turn_tuple a _, ?_, mine, q⟩
    exact ⟨_, Heap.get?_push_size _ rfl, rfl, rfl⟩
theorem wk_list {K : PySem.W.Frag} {G : Hp} {a : Addr} {vs : List V} {ds : List D} (h : G a = some (.lst vs)) (ra : RpAll K G vs ds) : Wk false K (Itl K a) ds G := fun G1 H1 s1 s2 i => by
  have hs : SqL K H1 a vs := SqL.of (s2 _ _ (s1 _ _ h))
  refine ⟨fun d hd => ?_, fun e => ⟨vs, hs, by rw [RpAll.length ra, e]; exact Nat.le_refl _⟩⟩
  obtain ⟨v, h1, h2⟩ := RpAll.get ra hd
  refine ⟨⟨vs, v, hs, h1⟩, fun x H2 hy => .inl ⟨hy.1, ?_⟩⟩
  have e := hy.2 vs hs
  rw [h1] at e
  cases e
  exact Rp.mono s1 _ _ h2
theorem wk_tup {K : PySem.W.Frag} {G : Hp} {a : Addr} {vs : List V} {ds : List D} (h : TupK K G a vs) (ra : RpAll K G vs ds) : Wk false K (Itt K a) ds G := fun G1 H1 s1 s2 i => by
  have hs : SqT K H1 a vs := ((h.mono s1).mono s2).sq
  refine ⟨fun d hd => ?_, fun e => ⟨vs, hs, by rw [RpAll.length ra, e]; exact Nat.le_refl _⟩⟩
  obtain ⟨v, h1, h2⟩ := RpAll.get ra hd
  refine ⟨⟨vs, v, hs, h1⟩, fun x H2 hy => .inl ⟨hy.1, ?_⟩⟩
  have e := hy.2 vs hs
  rw [h1] at e
  cases e
  exact Rp.mono s1 _ _ h2
def seqOf (d : D) (Q : List D → Prop) : Prop := match d with
  | .list ds => Q ds
  | .tuple ds => Q ds
  | _ => False
/-- a list or a tuple, walked (the list shut) -/
def wiS (we : WE) : WI := fun ρ Qd Qx => we ρ (fun r ρ1 => fz r ρ1 fun d ρ2 => seqOf d fun ds => Qd ds ρ2) Qx
theorem d_iS {we : WE} (h : DE X c e we) (hK : X.K = c.K := by rfl) : DI false X c tg e (wiS we) := PIw (pi_seq h) fun σ H R0 ⟨G, ρ, Qd, Qx, rl, hw, hQ, hX⟩ => ⟨G, ρ, _, Qx, rl, hw, fun v r ρ1 G1 H1 n1 rr fr q => by
  obtain ⟨G2, d, ρ2, s1, A1, O1, _, r1, hd, q1⟩ := fz_ok rl n1.a n1.o n1.r rr fr q
  have n2 : Nw c.K c.pa c.le G H σ ρ G2 H1 σ ρ2 := ⟨A1, O1, r1⟩
  rw [hK]
  cases d with
  | list ds =>
    cases hd with
    | lst h1 h2 => exact ⟨_, rfl, .inl ⟨⟨_, SqL.of (r1.ext _ _ h1)⟩, hQ ds ρ2 G2 H1 _ n2 (wk_list h1 h2) q1⟩⟩
  | tuple ds =>
    cases hd with
    | tup h1 h2 => exact ⟨_, rfl, .inr ⟨⟨_, (h1.mono r1.ext).sq⟩, hQ ds ρ2 G2 H1 _ n2 (wk_tup h1 h2) q1⟩⟩
  | _ => exact q1.elim, hX⟩
def rangeD (lo hi : Int) : List D := (List.range (hi - lo).toNat).map fun i => .int (lo + (i : Nat))
theorem rangeD_len (lo hi : Int) : (rangeD lo hi).length = (hi - lo).toNat := by unfold rangeD; rw [List.length_map, List.length_range]
theorem wk_range {K : PySem.W.Frag} {G : Hp} {lo hi : Int} : Wk false K (Itr lo (hi - lo).toNat) (rangeD lo hi) G := fun G1 H1 s1 s2 i => by
  refine ⟨fun d hd => ?_, fun e => by rw [rangeD_len] at e; rw [← e]; exact Nat.le_refl _⟩
  have hi' : i < (hi - lo).toNat := by
    have := (List.getElem?_eq_some_iff.mp hd).1
    rw [rangeD_len] at this
    exact this
  refine ⟨hi', fun x H2 hy => .inl ⟨hy.1, ?_⟩⟩
  unfold rangeD at hd
  rw [List.getElem?_map, List.getElem?_range hi'] at hd
  cases hd
  rw [hy.2]
  exact .int _
/-- the ends of a range -/
def wRg1 (ws : WA) : Rn → (Int → Int → Rn → Prop) → (Xn → Prop) → Prop := fun ρ Qd Qx => ws ρ (fun rs ρ1 => match rs with
  | [r] => (match vw ρ1 r with
    | some (.int j) => (-1000000000 ≤ j ∧ j ≤ 1000000000) ∧ Qd 0 j ρ1
    | _ => False)
  | _ => False) Qx
def wRg2 (ws : WA) : Rn → (Int → Int → Rn → Prop) → (Xn → Prop) → Prop := fun ρ Qd Qx => ws ρ (fun rs ρ1 => match rs with
  | [r, r'] => (match vw ρ1 r with
    | some (.int i) => (match vw ρ1 r' with
      | some (.int j) => (-1000000000 ≤ i ∧ i ≤ 1000000000 ∧ -1000000000 ≤ j ∧ j ≤ 1000000000) ∧ Qd i j ρ1
      | _ => False)
    | _ => False)
  | _ => False) Qx
def wiR (w : Rn → (Int → Int → Rn → Prop) → (Xn → Prop) → Prop) : WI := fun ρ Qd Qx => w ρ (fun i j ρ1 => Qd (rangeD i j) ρ1) Qx
theorem la_rg1 {ws : WA} {σ : L2.St} {H : Hp} {Q : List V → Hp → Prop} {G : Hp} {ρ : Rn} {Qd : Int → Int → Rn → Prop} {Qx : Xn → Prop} (rl : Rel c.K c.pa c.le G H σ ρ) (hw : wRg1 ws ρ Qd Qx) (hX : LX c G H σ ρ Qx)
    (hQ : ∀ (j : Int) ρ' G' H', Nw c.K c.pa c.le G H σ ρ G' H' σ ρ' → -1000000000 ≤ j → j ≤ 1000000000 → Qd 0 j ρ' → Q [.int j] H') : LA c ws σ H Q :=
  ⟨G, ρ, _, Qx, rl, hw, fun vs rs ρ1 G1 H1 n1 rr q => by
    cases rr with
    | nil => exact q.elim
    | cons r1 rest =>
      cases rest with
      | cons _ _ => exact q.elim
      | nil =>
        rename_i v r
        have q' : (match vw ρ1 r with
          | some (.int j) => (-1000000000 ≤ j ∧ j ≤ 1000000000) ∧ Qd 0 j ρ1
          | _ => False) := q
        cases e1 : vw ρ1 r with
        | none => rw [e1] at q'; exact q'.elim
        | some d =>
          rw [e1] at q'
          cases d with
          | int j =>
            have e2 := vw_int n1.r r1.2 e1
            subst e2
            exact hQ j ρ1 G1 H1 n1 q'.1.1 q'.1.2 q'.2
          | _ => exact q'.elim, hX⟩
theorem la_rg2 {ws : WA} {σ : L2.St} {H : Hp} {Q : List V → Hp → Prop} {G : Hp} {ρ : Rn} {Qd : Int → Int → Rn → Prop} {Qx : Xn → Prop} (rl : Rel c.K c.pa c.le G H σ ρ) (hw : wRg2 ws ρ Qd Qx) (hX : LX c G H σ ρ Qx)
    (hQ : ∀ (i j : Int) ρ' G' H', Nw c.K c.pa c.le G H σ ρ G' H' σ ρ' → (-1000000000 ≤ i ∧ i ≤ 1000000000 ∧ -1000000000 ≤ j ∧ j ≤ 1000000000) → Qd i j ρ' → Q [.int i, .int j] H') : LA c ws σ H Q :=
  ⟨G, ρ, _, Qx, rl, hw, fun vs rs ρ1 G1 H1 n1 rr q => by
    cases rr with
    | nil => exact q.elim
    | cons r1 rest =>
      cases rest with
      | nil => exact q.elim
      | cons r2 rest =>
        cases rest with
        | cons _ _ => exact q.elim
        | nil =>
          rename_i v r v' r'
          have q' : (match vw ρ1 r with
            | some (.int i) => (match vw ρ1 r' with
              | some (.int j) => (-1000000000 ≤ i ∧ i ≤ 1000000000 ∧ -1000000000 ≤ j ∧ j ≤ 1000000000) ∧ Qd i j ρ1
              | _ => False)
            | _ => False) := q
          cases e1 : vw ρ1 r with
          | none => rw [e1] at q'; exact q'.elim
          | some d =>
            rw [e1] at q'
            cases d with
            | int i =>
              cases e2 : vw ρ1 r' with
              | none => rw [e2] at q'; exact q'.elim
              | some d' =>
                rw [e2] at q'
                cases d' with
                | int j =>
                  have e3 := vw_int n1.r r1.2 e1
                  have e4 := vw_int n1.r r2.2 e2
                  subst e3 e4
                  exact hQ i j ρ1 G1 H1 n1 q'.1 q'.2
                | _ => exact q'.elim
            | _ => exact q'.elim, hX⟩
theorem d_iR1 {ws : WA} (hg : Gl X "range") (hm : X.mg "range" = none) (ha : DA X c [a] ws) (hs : starEach [a] X.env = [(false, eval a X.env)] := by rfl) : DI false X c tg (.Call (.Name "range" p) [a] [] pos) (wiR (wRg1 ws)) :=
  PIw (pi_range1 hg hm ha hs) fun σ H R0 ⟨G, ρ, Qd, Qx, rl, hw, hQ, hX⟩ => la_rg1 rl hw hX fun j ρ' G' H' n h1 h2 q => ⟨j, rfl, by omega, by omega, by
    have h := hQ _ ρ' G' H' _ n (wk_range (lo := 0) (hi := j)) q
    rw [Int.sub_zero] at h
    exact h⟩
theorem d_iR2 {ws : WA} (hg : Gl X "range") (hm : X.mg "range" = none) (ha : DA X c [a, b] ws) (hs : starEach [a, b] X.env = [(false, eval a X.env), (false, eval b X.env)] := by rfl) (hs2 : starEach [b] X.env = [(false, eval b X.env)] := by rfl) : DI false X c tg (.Call (.Name "range" p) [a, b] [] pos) (wiR (wRg2 ws)) :=
  PIw (pi_range2 hg hm ha hs hs2) fun σ H R0 ⟨G, ρ, Qd, Qx, rl, hw, hQ, hX⟩ => la_rg2 rl hw hX fun i j ρ' G' H' n h q => ⟨i, j, rfl, ⟨by omega, by omega, by omega, by omega⟩, hQ _ ρ' G' H' _ n wk_range q⟩
/-- enumerate of a list or a tuple -/
def enumD (ds : List D) : List D := (List.range ds.length).map fun i => .tuple [.int (i : Nat), ds.getD i .none]
theorem enumD_len (ds : List D) : (enumD ds).length = ds.length := by unfold enumD; rw [List.length_map, List.length_range]
theorem enumD_get {ds : List D} {i : Nat} {d : D} (h : (enumD ds)[i]? = some d) : ∃ x, ds[i]? = some x ∧ d = .tuple [.int (i : Nat), x] := by
  have hi : i < ds.length := by
    have := (List.getElem?_eq_some_iff.mp h).1
    rw [enumD_len] at this
    exact this
  unfold enumD at h
  rw [List.getElem?_map, List.getElem?_range hi] at h
  cases h
  exact ⟨ds[i], List.getElem?_eq_getElem hi, by show PyData.tuple [.int (i : Nat), ds.getD i .none] = _; rw [List.getD_eq_getElem?_getD, List.getElem?_eq_getElem hi]; rfl⟩
def iEnumA (K : PySem.W.Frag) (ta : TA) : TI := fun σ H R => ta σ H fun vs H1 => ∃ a, vs = [.ref a] ∧ (((∃ xs, SqL K H1 a xs) ∧ R (Ite K a) H1) ∨ ((∃ xs, SqT K H1 a xs) ∧ R (Itet K a) H1))
theorem pi_enumA {ta : TA} {tpos : Pos} {elts : List Expr} {kk : Nat} (hg : Gl X "enumerate") (hm : X.mg "enumerate" = none) (ha : PA X [e] ta) (hs : starEach [e] X.env = [(false, eval e X.env)] := by rfl) :
    PI X (.Tuple elts kk tpos) (.Call (.Name "enumerate" p) [e] [] pos) (iEnumA X.K ta) := by
  refine ⟨fun pins s σ H R I h => PyProof.Rows.Call_ (ld_blt I hg hm PyProof.Rows.boot_enumerate (PyProof.Rows.callWith_type1 (thn (ha.run pos pins s σ H _ I h) fun us s1 hv => ?_) hs rfl))⟩
  obtain ⟨vs, H1, I1, r1, a, rfl, q⟩ := hv
  obtain ⟨u, rfl, rx⟩ := Vals.one r1
  cases rx
  have two : ∀ b ∈ [s1.heap.objs.size + 1, s1.heap.objs.size], FpOk X pins H1 b := fun b hb => by
    have e' : b = s1.heap.objs.size + 1 ∨ b = s1.heap.objs.size := by simpa using hb
    have hle : s1.heap.objs.size ≤ b := by
      rcases e' with z | z <;> rw [z]
      · exact Nat.le_add_right _ _
      · exact Nat.le_refl _
    exact I1.fpOk hle (I1.hok.fresh hle)
  rcases q with ⟨⟨xs, hq⟩, q⟩ | ⟨⟨xs, hq⟩, q⟩
  · obtain ⟨its, rv, pl, hz⟩ := I1.list hq
    refine call_enumerate_list pl.isList fun h' he hit hsz hk => wpAny_pyIter_enum he ?_
    exact ⟨_, _, _, _, H1, rfl, I1.kept (t' := s1.toks) hk, turn_enum a (s1.heap.objs.size + 1) s1.heap.objs.size, ⟨⟨.none, he⟩, hit, Nat.succ_ne_self _⟩, two, q⟩
  · obtain ⟨its, rv, pl, hz⟩ := I1.tuple hq
    have hal : a < s1.heap.objs.size := pl.lt
    refine callEnum1 (begins_tuple a its.toArray) pl fun h' he hit hk => wpAny_pyIter_enum he ?_
    exact ⟨_, _, _, _, H1, rfl, I1.kept (t' := s1.toks) hk, turnEnumT a (s1.heap.objs.size + 1) s1.heap.objs.size, ⟨⟨.none, he⟩, ⟨_, hit, rfl, rfl⟩, Nat.succ_ne_self _, Nat.ne_of_gt (Nat.lt_succ_of_lt hal), Nat.ne_of_gt hal⟩, two, q⟩
theorem wk_enumL {K : PySem.W.Frag} {G : Hp} {a : Addr} {vs : List V} {ds : List D} (h : G a = some (.lst vs)) (ra : RpAll K G vs ds) : Wk true K (Ite K a) (enumD ds) G := fun G1 H1 s1 s2 i => by
  have hs : SqL K H1 a vs := SqL.of (s2 _ _ (s1 _ _ h))
  refine ⟨fun d hd => ?_, fun e => ⟨vs, hs, by rw [RpAll.length ra, ← enumD_len, e]; exact Nat.le_refl _⟩⟩
  obtain ⟨d', hd', rfl⟩ := enumD_get hd
  obtain ⟨v, h1, h2⟩ := RpAll.get ra hd'
  refine ⟨⟨vs, v, hs, h1⟩, fun x H2 hy => .inr ⟨rfl, ?_⟩⟩
  obtain ⟨T, y, rfl, hT, e2, hy⟩ := hy
  have e := hy vs hs
  rw [h1] at e
  cases e
  exact ⟨T, _, _, hT, e2, rfl, rfl, .cons (.int _) (.cons (Rp.mono s1 _ _ h2) .nil)⟩
theorem wk_enumT {K : PySem.W.Frag} {G : Hp} {a : Addr} {vs : List V} {ds : List D} (h : TupK K G a vs) (ra : RpAll K G vs ds) : Wk true K (Itet K a) (enumD ds) G := fun G1 H1 s1 s2 i => by
  have hs : SqT K H1 a vs := ((h.mono s1).mono s2).sq
  refine ⟨fun d hd => ?_, fun e => ⟨vs, hs, by rw [RpAll.length ra, ← enumD_len, e]⟩⟩
  obtain ⟨d', hd', rfl⟩ := enumD_get hd
  obtain ⟨v, h1, h2⟩ := RpAll.get ra hd'
  refine ⟨⟨vs, v, hs, h1⟩, fun x H2 hy => .inr ⟨rfl, ?_⟩⟩
  obtain ⟨T, y, rfl, hT, e2, hy⟩ := hy
  have e := hy vs hs
  rw [h1] at e
  cases e
  exact ⟨T, _, _, hT, e2, rfl, rfl, .cons (.int _) (.cons (Rp.mono s1 _ _ h2) .nil)⟩
def wiE (ws : WA) : WI := fun ρ Qd Qx => ws ρ (fun rs ρ1 => match rs with
  | [r] => fz r ρ1 fun d ρ2 => seqOf d fun ds => Qd (enumD ds) ρ2
  | _ => False) Qx
theorem d_iE {ws : WA} {tpos : Pos} {elts : List Expr} {kk : Nat} (hg : Gl X "enumerate") (hm : X.mg "enumerate" = none) (ha : DA X c [e] ws) (hs : starEach [e] X.env = [(false, eval e X.env)] := by rfl) (hK : X.K = c.K := by rfl) : DI true X c (.Tuple elts kk tpos) (.Call (.Name "enumerate" p) [e] [] pos) (wiE ws) :=
  PIw (pi_enumA hg hm ha hs) fun σ H R0 ⟨G, ρ, Qd, Qx, rl, hw, hQ, hX⟩ => ⟨G, ρ, _, Qx, rl, hw, fun vs rs ρ1 G1 H1 n1 rr q => by
    cases rr with
    | nil => exact q.elim
    | cons r1 rest =>
      cases rest with
      | cons _ _ => exact q.elim
      | nil =>
        rename_i v r
        have fr : Frs H σ ρ v r := by
          have := r1.1
          cases r <;> first | trivial | exact this.elim
        obtain ⟨G2, d, ρ2, s1, A1, O1, _, r2, hd, q1⟩ := fz_ok rl n1.a n1.o n1.r r1.2 fr q
        have n2 : Nw c.K c.pa c.le G H σ ρ G2 H1 σ ρ2 := ⟨A1, O1, r2⟩
        rw [hK]
        cases d with
        | list ds =>
          cases hd with
          | lst h1 h2 => exact ⟨_, rfl, .inl ⟨⟨_, SqL.of (r2.ext _ _ h1)⟩, hQ _ ρ2 G2 H1 _ n2 (wk_enumL h1 h2) q1⟩⟩
        | tuple ds =>
          cases hd with
          | tup h1 h2 => exact ⟨_, rfl, .inr ⟨⟨_, (h1.mono r2.ext).sq⟩, hQ _ ρ2 G2 H1 _ n2 (wk_enumT h1 h2) q1⟩⟩
        | _ => exact q1.elim, hX⟩
end
end Tr

namespace Tr
open PySem L2

/-! ### built-ins -/
section
variable {X : Cx} {c : Ct} {a b e : Expr} {es : List Expr} {p pos : Pos} {k : Nat}
theorem CallR.or {f : Value} {r r' : List V → Hp → VK → Prop} (h : CallR X f r) (h' : CallR X f r') : CallR X f fun xs H Q => r xs H Q ∨ r' xs H Q := fun pins s σ H xs us Q I rv q => by
  rcases q with q | q
  · exact h pins s σ H xs us Q I rv q
  · exact h' pins s σ H xs us Q I rv q
def gLen : D → (R → Prop) → Prop := fun d q => match d with
  | .list ds => q (.im (.int ds.length))
  | .tuple ds => q (.im (.int ds.length))
  | .str z => z.length ≤ 100000 ∧ q (.im (.int z.length))
  | .dict kvs => (match scrOf kvs with
    | some ns => q (.im (.int ns.length))
    | none => False)
  | _ => False
theorem d_len {ws : WA} (hg : Gl X "len") (hm : X.mg "len" = none) (ha : DA X c [e] ws) (hK : X.K = c.K := by rfl) (he : starEach [e] X.env = (false, eval e X.env) :: starEach [] X.env := by rfl) (hpl : (backTo pos (starEach [] X.env)).any (·.1) = false := by rfl) : DE X c (.Call (.Name "len" p) [e] [] pos) (wA (vA1 gLen) ws) :=
  d_callB (CallR.or call_len_seq call_len_str) (sndA1 fun G H σ ρ v r d Qd Q rl rr h1 q hg => by
    cases d with
    | list ds =>
      obtain ⟨a1, us, rfl, t1, p1⟩ := vw_lst rl rr h1
      exact .inl ⟨a1, us, rfl, .inl (SqL.of t1), got_flat hg rl rfl (by rw [RpAll.length p1]; exact q)⟩
    | tuple ds =>
      obtain ⟨a1, us, rfl, t1, p1⟩ := vw_tup rl rr h1
      exact .inl ⟨a1, us, rfl, .inr (by rw [hK]; exact (t1.mono rl.ext).sq), got_flat hg rl rfl (by rw [RpAll.length p1]; exact q)⟩
    | str z =>
      have e1 : v = .str z := vw_flat rl rr h1 rfl
      subst e1
      exact .inr ⟨z, rfl, szl q.1, got_flat hg rl rfl q.2⟩
    | dict kvs =>
      have q' : (match scrOf kvs with
        | some ns => Qd (.im (.int ns.length)) ρ
        | none => False) := q
      cases e2 : scrOf kvs with
      | none => rw [e2] at q'; exact q'.elim
      | some ns =>
        obtain ⟨a1, rfl, t1⟩ := vw_scr rl rr h1 e2
        rw [e2] at q'
        exact .inl ⟨a1, _, rfl, .inl (by rw [hK]; exact t1), got_flat hg rl rfl (by rw [List.length_map]; exact q')⟩
    | _ => exact q.elim) hg hm PySem.boot_len ha (he := he) (hpl := hpl)
def gTuple : D → (R → Prop) → Prop := fun d q => match d with
  | .list ds => ds.length ≤ 100000 ∧ q (.im (.tuple ds))
  | .tuple ds => q (.im (.tuple ds))
  | _ => False
theorem d_tuple {ws : WA} (hg : Gl X "tuple") (hm : X.mg "tuple" = none) (ha : DA X c [e] ws) (hK : X.K = c.K := by rfl) (he : starEach [e] X.env = (false, eval e X.env) :: starEach [] X.env := by rfl) (hpl : (backTo pos (starEach [] X.env)).any (·.1) = false := by rfl) : DE X c (.Call (.Name "tuple" p) [e] [] pos) (wA (vA1 gTuple) ws) :=
  d_callTy call_tupleF (sndA1 fun G H σ ρ v r d Qd Q rl rr h1 q hg => by
    cases d with
    | list ds =>
      obtain ⟨a1, us, rfl, t1, p1⟩ := vw_lst rl rr h1
      exact ⟨a1, us, rfl, .inl ⟨SqL.of t1, got_tup hg rl p1 q.2⟩⟩
    | tuple ds =>
      obtain ⟨a1, us, rfl, t1, p1⟩ := vw_tup rl rr h1
      exact ⟨a1, us, rfl, .inr ⟨by rw [hK]; exact (t1.mono rl.ext).sq, got_known hg rl (.tup t1 p1) q⟩⟩
    | _ => exact q.elim) hg hm (by decide +kernel) ha (he := he) (hpl := hpl)
def gList : D → (R → Prop) → Prop := fun d q => match d with
  | .list ds => q (.tmp ds)
  | .tuple ds => q (.tmp ds)
  | _ => False
theorem d_list {ws : WA} (hg : Gl X "list") (hm : X.mg "list" = none) (ha : DA X c [e] ws) (hK : X.K = c.K := by rfl) (he : starEach [e] X.env = (false, eval e X.env) :: starEach [] X.env := by rfl) (hpl : (backTo pos (starEach [] X.env)).any (·.1) = false := by rfl) : DE X c (.Call (.Name "list" p) [e] [] pos) (wA (vA1 gList) ws) :=
  d_callTy call_list_of (sndA1 fun G H σ ρ v r d Qd Q rl rr h1 q hg => by
    cases d with
    | list ds =>
      obtain ⟨a1, us, rfl, t1, p1⟩ := vw_lst rl rr h1
      exact ⟨a1, us, rfl, .inl (SqL.of t1), got_lst hg rl p1 q⟩
    | tuple ds =>
      obtain ⟨a1, us, rfl, t1, p1⟩ := vw_tup rl rr h1
      exact ⟨a1, us, rfl, .inr (by rw [hK]; exact (t1.mono rl.ext).sq), got_lst hg rl p1 q⟩
    | _ => exact q.elim) hg hm (by decide +kernel) ha (he := he) (hpl := hpl)
def gInt : D → (R → Prop) → Prop := fun d q => match d with
  | .int i => q (.im (.int i))
  | .bool b => q (.im (.int (if b then 1 else 0)))
  | _ => False
theorem d_int {ws : WA} (hg : Gl X "int") (hm : X.mg "int" = none) (ha : DA X c [e] ws) (he : starEach [e] X.env = (false, eval e X.env) :: starEach [] X.env := by rfl) (hpl : (backTo pos (starEach [] X.env)).any (·.1) = false := by rfl) : DE X c (.Call (.Name "int" p) [e] [] pos) (wA (vA1 gInt) ws) :=
  d_callTy call_int1 (sndA1 fun G H σ ρ v r d Qd Q rl rr h1 q hg => by
    cases d with
    | int i =>
      have e1 := vw_int rl rr h1
      subst e1
      exact .inl ⟨i, rfl, got_flat hg rl rfl q⟩
    | bool b =>
      have e1 : v = .bl b := vw_flat rl rr h1 rfl
      subst e1
      exact .inr ⟨b, rfl, got_flat hg rl rfl q⟩
    | _ => exact q.elim) hg hm (by decide +kernel) ha (he := he) (hpl := hpl)
def gAbs : D → (R → Prop) → Prop := fun d q => match d with
  | .int i => q (.im (.int (if i < 0 then -i else i)))
  | _ => False
theorem d_abs {ws : WA} (hg : Gl X "abs") (hm : X.mg "abs" = none) (ha : DA X c [e] ws) (he : starEach [e] X.env = (false, eval e X.env) :: starEach [] X.env := by rfl) (hpl : (backTo pos (starEach [] X.env)).any (·.1) = false := by rfl) : DE X c (.Call (.Name "abs" p) [e] [] pos) (wA (vA1 gAbs) ws) :=
  d_callB call_abs (sndA1 fun G H σ ρ v r d Qd Q rl rr h1 q hg => by
    cases d with
    | int i =>
      have e1 := vw_int rl rr h1
      subst e1
      exact ⟨i, rfl, got_flat hg rl rfl q⟩
    | _ => exact q.elim) hg hm (by decide +kernel) ha (he := he) (hpl := hpl)
abbrev gMax2 := gI (fun i j => .int (if j > i then j else i)) fun _ _ => True
abbrev gMin2 := gI (fun i j => .int (if j < i then j else i)) fun _ _ => True
theorem ok_I2 {f : Int → Int → V} {f' : Int → Int → D} (hf : ∀ i j, flatD (f i j) = some (f' i j)) : Ok2 c (fun v v' H Q => ∃ i j, [v, v'] = [V.int i, V.int j] ∧ Q (f i j) H) (gI f' fun _ _ => True) := fun G H σ ρ v v' r r' d e Qd Q rl rr rr' h1 h2 q hg => by
  obtain ⟨i, j, rfl, rfl, q⟩ := ok_I0 (c := c) (f := f) hf G H σ ρ v v' r r' d e Qd Q rl rr rr' h1 h2 q hg
  exact ⟨i, j, rfl, q⟩
theorem d_max2 {ws : WA} (hc : X.calm = true) (hg : Gl X "max") (hm : X.mg "max" = none) (ha : DA X c [a, b] ws) (he : starEach [a, b] X.env = (false, eval a X.env) :: starEach [b] X.env := by rfl) (hpl : (backTo pos (starEach [b] X.env)).any (·.1) = false := by rfl) : DE X c (.Call (.Name "max" p) [a, b] [] pos) (wA (vA2 gMax2) ws) :=
  d_callB (call_max2 hc) (sndA2 (ok_I2 (f := fun i j => .int (if j > i then j else i)) fun _ _ => rfl)) hg hm (by decide +kernel) ha (he := he) (hpl := hpl)
theorem d_min2 {ws : WA} (hc : X.calm = true) (hg : Gl X "min") (hm : X.mg "min" = none) (ha : DA X c [a, b] ws) (he : starEach [a, b] X.env = (false, eval a X.env) :: starEach [b] X.env := by rfl) (hpl : (backTo pos (starEach [b] X.env)).any (·.1) = false := by rfl) : DE X c (.Call (.Name "min" p) [a, b] [] pos) (wA (vA2 gMin2) ws) :=
  d_callB (call_min2 hc) (sndA2 (ok_I2 (f := fun i j => .int (if j < i then j else i)) fun _ _ => rfl)) hg hm (by decide +kernel) ha (he := he) (hpl := hpl)
/-- fit for repr -/
def Rpr (d : D) : Prop := d.showable = true ∧ d.hasDict = false ∧ d.depth ≤ 64 ∧ d.shown.length ≤ 16777216
def gRepr : D → (R → Prop) → Prop := fun d q => Rpr d ∧ q (.im (.str d.shown))
theorem d_repr {ws : WA} (hr : Rm k X.A) (hg : Gl X "repr") (hm : X.mg "repr" = none) (ha : DA X c [e] ws) (hK : X.K = c.K := by rfl) (he : starEach [e] X.env = (false, eval e X.env) :: starEach [] X.env := by rfl) (hpl : (backTo pos (starEach [] X.env)).any (·.1) = false := by rfl) : DE X c (.Call (.Name "repr" p) [e] [] pos) (wA (vA1 gRepr) ws) :=
  d_callB (call_reprD hr.g hr.u66) (sndA1 fun G H σ ρ v r d Qd Q rl rr h1 q hg =>
    ⟨v, d, rfl, by rw [hK]; exact Rp.dp _ _ (vw_ok rl rr h1) q.1.2.1, q.1.1, q.1.2.1, q.1.2.2.1, by rw [sizeLine_eq]; exact q.1.2.2.2, got_flat hg rl rfl q.2⟩) hg hm (by decide +kernel) ha (he := he) (hpl := hpl)
/-- sum of a list of ints -/
def gSum : D → (R → Prop) → Prop := fun d q => match d with
  | .list ds => (match intsOf ds with
    | some ns => q (.im (.int ns.sum))
    | none => False)
  | _ => False
theorem d_sum {ws : WA} (hc : X.calm = true) (hg : Gl X "sum") (hm : X.mg "sum" = none) (ha : DA X c [e] ws) (he : starEach [e] X.env = (false, eval e X.env) :: starEach [] X.env := by rfl) (hpl : (backTo pos (starEach [] X.env)).any (·.1) = false := by rfl) : DE X c (.Call (.Name "sum" p) [e] [] pos) (wA (vA1 gSum) ws) :=
  d_callB (cr_sum hc) (sndA1 fun G H σ ρ v r d Qd Q rl rr h1 q hg => by
    cases d with
    | list ds =>
      obtain ⟨a1, us, rfl, t1, p1⟩ := vw_lst rl rr h1
      have q' : (match intsOf ds with
        | some ns => Qd (.im (.int ns.sum)) ρ
        | none => False) := q
      cases e1 : intsOf ds with
      | none => rw [e1] at q'; exact q'.elim
      | some ns =>
        rw [e1] at q'
        have e2 := intsOf_map e1
        subst e2
        have e3 := RpAll.ints_inv p1
        subst e3
        exact ⟨a1, ns, rfl, SqL.of t1, got_flat hg rl rfl q'⟩
    | _ => exact q.elim) hg hm (by decide +kernel) ha (he := he) (hpl := hpl)
/-- list(range(..)) -/
theorem prg1 {wa : WE} (hg : Gl X "range") (hm : X.mg "range" = none) (ha : DE X c a wa) (na : starEach [a] X.env = (false, eval a X.env) :: starEach [] X.env := by rfl) : PRg X (.Call (.Name "range" p) [a] [] pos) (tRg1 (LE c wa)) := prg_1 hg hm ha na
def wLR1 (wa : WE) : WE := fun ρ Qd Qx => wa ρ (fun r ρ1 => match vw ρ1 r with
  | some (.int j) => j ≤ 100000 ∧ -1000000000 ≤ j ∧ Qd (.tmp (rangeD 0 j)) ρ1
  | _ => False) Qx
theorem rp_rg {K : PySem.W.Frag} {G : Hp} (i j : Int) : RpAll K G (rgV i j) (rangeD i j) := by
  have key : ∀ l : List Nat, RpAll K G (l.map fun m => V.int (i + (m : Nat))) (l.map fun m => PyData.int (i + (m : Nat))) := fun l => by
    induction l with
    | nil => exact .nil
    | cons m l ih => exact .cons (.int _) ih
  exact key _
theorem d_listR1 {wa : WE} {p2 pos2 : Pos} (hc : X.calm = true) (hg : Gl X "list") (hm : X.mg "list" = none) (hg2 : Gl X "range") (hm2 : X.mg "range" = none) (ha : DE X c a wa) (na : starEach [a] X.env = (false, eval a X.env) :: starEach [] X.env := by rfl)
    (nb : starEach [.Call (.Name "range" p2) [a] [] pos2] X.env = (false, eval (.Call (.Name "range" p2) [a] [] pos2) X.env) :: starEach [] X.env := by rfl) : DE X c (.Call (.Name "list" p) [.Call (.Name "range" p2) [a] [] pos2] [] pos) (wLR1 wa) :=
  PEw (pe_listRg hc hg hm (prg1 hg2 hm2 ha na) nb) fun σ H Q ⟨G, ρ, Qd, Qx, rl, hw, hQ, hX⟩ => ⟨G, ρ, _, Qx, rl, hw, fun v r ρ1 G1 H1 n1 rr fr q => by
    have q' : (match vw ρ1 r with
      | some (.int j) => j ≤ 100000 ∧ -1000000000 ≤ j ∧ Qd (.tmp (rangeD 0 j)) ρ1
      | _ => False) := q
    cases e1 : vw ρ1 r with
    | none => rw [e1] at q'; exact q'.elim
    | some d =>
      rw [e1] at q'
      cases d with
      | int j =>
        have e2 := vw_int n1.r rr e1
        subst e2
        obtain ⟨j1, j2, q3⟩ := q'
        exact ⟨j, rfl, ⟨by omega, by omega, by omega, by omega, by omega⟩, got_lst (fun v' r' ρ' G' H' n2 rr2 fr2 q2 => hQ v' r' ρ' G' H' (n1.trans rl n2) rr2 (fr2.trans n1) q2) n1.r (rp_rg 0 j) q3⟩
      | _ => exact q'.elim, hX⟩
def wLR2 (wa wb : WE) : WE := fun ρ Qd Qx => wa ρ (fun r ρ1 => wb ρ1 (fun r' ρ2 => match vw ρ1 r with
  | some (.int i) => (match vw ρ2 r' with
    | some (.int j) => (-1000000000 ≤ i ∧ i ≤ 1000000000 ∧ -1000000000 ≤ j ∧ j ≤ 1000000000 ∧ j - i ≤ 100000) ∧ Qd (.tmp (rangeD i j)) ρ2
    | _ => False)
  | _ => False) Qx) Qx
theorem d_listR2 {wa wb : WE} {p2 pos2 : Pos} (hc : X.calm = true) (hg : Gl X "list") (hm : X.mg "list" = none) (hg2 : Gl X "range") (hm2 : X.mg "range" = none) (ha : DE X c a wa) (hb : DE X c b wb) (na : starEach [a, b] X.env = (false, eval a X.env) :: starEach [b] X.env := by rfl) (na2 : starEach [b] X.env = (false, eval b X.env) :: starEach [] X.env := by rfl) (hp2 : (backTo pos2 (starEach [b] X.env)).any (·.1) = false := by rfl)
    (nb : starEach [.Call (.Name "range" p2) [a, b] [] pos2] X.env = (false, eval (.Call (.Name "range" p2) [a, b] [] pos2) X.env) :: starEach [] X.env := by rfl) : DE X c (.Call (.Name "list" p) [.Call (.Name "range" p2) [a, b] [] pos2] [] pos) (wLR2 wa wb) :=
  PEw (pe_listRg hc hg hm (prg_2 hg2 hm2 ha hb na na2 hp2) nb) fun σ H Q ⟨G, ρ, Qd, Qx, rl, hw, hQ, hX⟩ => ⟨G, ρ, _, Qx, rl, hw, fun v r ρ1 G1 H1 n1 rr fr q => by
    refine ⟨G1, ρ1, _, Qx, n1.r, q, fun v' r' ρ2 G2 H2 n2 rr2 fr2 q2 => ?_, hX.trans rl n1⟩
    have q' : (match vw ρ1 r with
      | some (.int i) => (match vw ρ2 r' with
        | some (.int j) => (-1000000000 ≤ i ∧ i ≤ 1000000000 ∧ -1000000000 ≤ j ∧ j ≤ 1000000000 ∧ j - i ≤ 100000) ∧ Qd (.tmp (rangeD i j)) ρ2
        | _ => False)
      | _ => False) := q2
    cases e1 : vw ρ1 r with
    | none => rw [e1] at q'; exact q'.elim
    | some d =>
      rw [e1] at q'
      cases d with
      | int i =>
        cases e2 : vw ρ2 r' with
        | none => rw [e2] at q'; exact q'.elim
        | some d' =>
          rw [e2] at q'
          cases d' with
          | int j =>
            have e3 := vw_int n1.r rr e1
            have e4 := vw_int n2.r rr2 e2
            subst e3 e4
            obtain ⟨⟨j1, j2, j3, j4, j5⟩, q3⟩ := q'
            have n3 := n1.trans rl n2
            exact ⟨i, j, rfl, rfl, ⟨by omega, by omega, by omega, by omega, by omega⟩, got_lst (fun v' r' ρ' G' H' n4 rr4 fr4 q4 => hQ v' r' ρ' G' H' (n3.trans rl n4) rr4 (fr4.trans n3) q4) n2.r (rp_rg i j) q3⟩
          | _ => exact q'.elim
      | _ => exact q'.elim, hX⟩
end

/-! ### methods -/
abbrev FM := R → List R → Rn → (R → Rn → Prop) → Prop
def SndM (c : Ct) (op : V → List V → Hp → VK → Prop) (f : FM) : Prop := ∀ G H σ ρ v r vs rs Qd Q, Rel c.K c.pa c.le G H σ ρ → R.calm r → RR c.K c.pa G H σ ρ v r → RRs c.K c.pa G H σ ρ vs rs → f r rs ρ Qd → Got c G H σ ρ Qd Q → op v vs H Q
/-- the receiver's kind -/
def isK (T : String) (d : Option D) : Prop := match d with
  | some (.list _) => T = "list"
  | some (.str _) => T = "str"
  | _ => False
def wM (T : String) (f : FM) (wo : WE) (ws : WA) : WE := fun ρ Qd Qx => wo ρ (fun o ρ1 => isK T (vw ρ1 (pin o)) ∧ ws ρ1 (fun rs ρ2 => f (pin o) rs ρ2 Qd) Qx) Qx
section
variable {X : Cx} {c : Ct} {o a b e : Expr} {es : List Expr} {apos cpos : Pos} {T id : String} {name : Str}
theorem isK_ty {K : PySem.W.Frag} {G H : Hp} {σ : L2.St} {ρ : Rn} {v : V} {r : R} {T : String} (rl : Rel c.K c.pa c.le G H σ ρ) (rr : RR c.K c.pa G H σ ρ v r) (h : isK T (vw ρ r)) : tyV K T v H := by
  cases e : vw ρ r with
  | none => rw [e] at h; exact h.elim
  | some d =>
    rw [e] at h
    cases d with
    | list ds =>
      obtain ⟨a1, us, rfl, t1, _⟩ := vw_lst rl rr e
      exact .inl ⟨h, us, SqL.of t1⟩
    | str z =>
      have e1 : v = .str z := vw_flat rl rr e rfl
      subst e1
      exact h
    | _ => exact h.elim
theorem d_bm {r : V → List V → Hp → VK → Prop} {f : FM} {wo : WE} {ws : WA} (pa : PlainAttrs T) (slot : Slot T name id) (hty : typeOf (.builtin id) = pure (.type "method_descriptor")) (hm : MtR X id r) (S : SndM c r f) (ho : DE X c o wo) (ha : DA X c (e :: es) ws)
    (hbase : attributeBase o name X.env (eval o X.env) = eval o X.env := by rfl)
    (hfew : ((backTo cpos (starEach (e :: es) X.env)).all (fun x => !x.1) && (backToKw cpos (keywordEach [] X.env)).all (fun x => x.1.isSome) && decide ((e :: es).length + ([] : List Keyword).length + (if ([] : List Keyword).isEmpty then 0 else 1) < 30)) = true := by rfl)
    (hline : (apos.endLine == cpos.line) = true := by rfl) (hs : starEach (e :: es) X.env = (false, eval e X.env) :: starEach es X.env := by rfl) (hplain : (backTo cpos (starEach es X.env)).any (·.1) = false := by rfl) :
    DE X c (.Call (.Attribute o name apos) (e :: es) [] cpos) (wM T f wo ws) :=
  PEw (pe_bm pa slot hty hm ho ha hbase hfew hline hs hplain) fun σ H Q ⟨G, ρ, Qd, Qx, rl, hw, hQ, hX⟩ => by
    refine ⟨G, ρ, _, Qx, rl, hw, fun v r1 ρ1 G1 H1 n1 rr fr q => ?_, hX⟩
    obtain ⟨G2, n2, _, rr2⟩ := n1.pin rl rr fr
    refine ⟨isK_ty n2.r rr2 q.1, G2, ρ1, _, Qx, n2.r, q.2, fun vs rs ρ3 G3 H3 n3 rr3 q3 => ?_, hX.trans rl n2⟩
    have n5 := n2.trans rl n3
    exact S _ _ _ _ _ _ _ _ Qd Q n5.r (pin_calm r1) (calm_RR (pin_calm r1) n3.a.g rr2) rr3 q3 fun v' r' ρ' G' H' n6 rr6 fr6 q6 => hQ v' r' ρ' G' H' (n5.trans rl n6) rr6 (fr6.trans n5) q6
def wM0 (T : String) (f : FM) (wo : WE) : WE := fun ρ Qd Qx => wo ρ (fun o ρ1 => isK T (vw ρ1 (pin o)) ∧ f (pin o) [] ρ1 Qd) Qx
theorem d_bm0 {r : V → List V → Hp → VK → Prop} {f : FM} {wo : WE} (pa : PlainAttrs T) (slot : Slot T name id) (hty : typeOf (.builtin id) = pure (.type "method_descriptor")) (hm : MtR X id r) (S : SndM c r f) (ho : DE X c o wo)
    (hbase : attributeBase o name X.env (eval o X.env) = eval o X.env := by rfl) (hline : (apos.endLine == cpos.line) = true := by rfl) : DE X c (.Call (.Attribute o name apos) [] [] cpos) (wM0 T f wo) :=
  PEw (pe_bm0 pa slot hty hm ho hbase hline) fun σ H Q ⟨G, ρ, Qd, Qx, rl, hw, hQ, hX⟩ => by
    refine ⟨G, ρ, _, Qx, rl, hw, fun v r1 ρ1 G1 H1 n1 rr fr q => ?_, hX⟩
    obtain ⟨G2, n2, _, rr2⟩ := n1.pin rl rr fr
    exact ⟨isK_ty n2.r rr2 q.1, S _ _ _ _ _ _ _ _ Qd Q n2.r (pin_calm r1) rr2 .nil q.2 fun v' r' ρ' G' H' n6 rr6 fr6 q6 => hQ v' r' ρ' G' H' (n2.trans rl n6) rr6 (fr6.trans n2) q6⟩

/-- the owned list at a slot -/
def owAt (r : R) (ρ : Rn) (Q : Nat → Bool → List D → Prop) : Prop := match r with
  | .sl i => (match ρ[i]? with
    | some (.own l (.l ds)) => Q i l ds
    | _ => False)
  | _ => False
theorem owAt_ok {G H : Hp} {σ : L2.St} {ρ : Rn} {v : V} {r : R} {Q : Nat → Bool → List D → Prop} (rl : Rel c.K c.pa c.le G H σ ρ) (rr : RR c.K c.pa G H σ ρ v r) (q : owAt r ρ Q) :
    ∃ i l ds a vs, r = .sl i ∧ ρ[i]? = some (Sl.ow l ds) ∧ σ[i]? = some (some (V.ref a)) ∧ v = .ref a ∧ H a = some (.lst vs) ∧ RpAll c.K G vs ds ∧ Q i l ds := by
  cases r with
  | sl i =>
    have q' : (match ρ[i]? with
      | some (.own l (.l ds)) => Q i l ds
      | _ => False) := q
    have hv : σ[i]? = some (some v) := rr
    cases e : ρ[i]? with
    | none => rw [e] at q'; exact q'.elim
    | some s =>
      rw [e] at q'
      cases s with
      | own l o =>
        cases o with
        | d kvs => exact q'.elim
        | t kvs => exact q'.elim
        | l ds =>
          obtain ⟨ov, z1, a, vs, z2, z3, z4, z5, z6⟩ := rl.sl i _ e
          rw [hv] at z1; cases z1; cases z2
          cases z5 with
          | l z5 => exact ⟨i, l, ds, a, _, rfl, e, hv, rfl, z4, z5, q'⟩
      | _ => exact q'.elim
  | _ => exact q.elim
theorem calm_frs {H : Hp} {σ : L2.St} {ρ : Rn} {v : V} {r : R} (h : R.calm r) : Frs H σ ρ v r := by
  cases r <;> first | trivial | exact h.elim
/-- xs.append(x) -/
def fApp : FM := fun r rs ρ Qd => match rs with
  | [x] => fz x ρ fun d ρ1 => owAt r ρ1 fun i l ds => ds.length < 100000 ∧ Qd (.im .none) (ρ1.set i (.ow l (ds ++ [d])))
  | _ => False
theorem lt_szl {n : Nat} (h : n < 100000) : n < sizeLine := Nat.lt_of_lt_of_le h (by decide)
theorem s_app : SndM c rAppend fApp := fun G H σ ρ v r vs rs Qd Q rl hc rr rrs q hg => by
  cases rrs with
  | nil => exact q.elim
  | cons r1 rest =>
    cases rest with
    | cons _ _ => exact q.elim
    | nil =>
      rename_i v1 x
      have q' : fz x ρ (fun d ρ1 => owAt r ρ1 fun i l ds => ds.length < 100000 ∧ Qd (.im .none) (ρ1.set i (.ow l (ds ++ [d])))) := q
      obtain ⟨G1, d, ρ1, s1, A1, O1, O2, rl1, hd, q1⟩ := fz_ok rl Aft.refl Ow.refl rl r1.2 (calm_frs r1.1) q'
      have n1 : Nw c.K c.pa c.le G H σ ρ G1 H σ ρ1 := ⟨A1, O1, rl1⟩
      obtain ⟨i, l, ds, a, us, rfl, h1, h2, rfl, h3, h4, hz, q2⟩ := owAt_ok rl1 (calm_RR hc s1 rr) q1
      refine ⟨a, us, _, rfl, rfl, h3, lt_szl (by rw [RpAll.length h4]; exact hz), ?_⟩
      exact hg .non (.im .none) _ G1 _ (n1.trans rl (Nw.mut rl1 h1 h2 (RpAll.append h4 (.cons hd .nil)))) .non trivial q2
theorem d_app {wo : WE} {ws : WA} (ho : DE X c o wo) (ha : DA X c [e] ws) (hbase : attributeBase o "append" X.env (eval o X.env) = eval o X.env := by rfl)
    (hfew : ((backTo cpos (starEach [e] X.env)).all (fun x => !x.1) && (backToKw cpos (keywordEach [] X.env)).all (fun x => x.1.isSome) && decide ([e].length + ([] : List Keyword).length + (if ([] : List Keyword).isEmpty then 0 else 1) < 30)) = true := by rfl)
    (hline : (apos.endLine == cpos.line) = true := by rfl) (hs : starEach [e] X.env = (false, eval e X.env) :: starEach [] X.env := by rfl) (hplain : (backTo cpos (starEach [] X.env)).any (·.1) = false := by rfl) : DE X c (.Call (.Attribute o "append" apos) [e] [] cpos) (wM "list" fApp wo ws) :=
  d_bm PySem.F.plainAttrs_list PySem.F.slot_list_append PySem.F.type_list_append mt_append s_app ho ha hbase hfew hline hs hplain
/-- xs.extend(ys) -/
def fExt : FM := fun r rs ρ Qd => match rs with
  | [x] => (match vw ρ x with
    | some (.list es) => owAt r ρ fun i l ds => ds.length + es.length ≤ 100000 ∧ Qd (.im .none) (ρ.set i (.ow l (ds ++ es)))
    | _ => False)
  | _ => False
theorem s_ext : SndM c rExtend fExt := fun G H σ ρ v r vs rs Qd Q rl hc rr rrs q hg => by
  cases rrs with
  | nil => exact q.elim
  | cons r1 rest =>
    cases rest with
    | cons _ _ => exact q.elim
    | nil =>
      rename_i v1 x
      have q' : (match vw ρ x with
        | some (.list es) => owAt r ρ fun i l ds => ds.length + es.length ≤ 100000 ∧ Qd (.im .none) (ρ.set i (.ow l (ds ++ es)))
        | _ => False) := q
      cases e1 : vw ρ x with
      | none => rw [e1] at q'; exact q'.elim
      | some d =>
        rw [e1] at q'
        cases d with
        | list es =>
          obtain ⟨b, ws, rfl, t1, p1⟩ := vw_lst rl r1.2 e1
          obtain ⟨i, l, ds, a, us, rfl, h1, h2, rfl, h3, h4, hz, q2⟩ := owAt_ok rl rr q'
          refine ⟨a, b, us, ws, rfl, rfl, h3, t1, szl (by rw [RpAll.length h4, RpAll.length p1]; exact hz), ?_⟩
          exact hg .non (.im .none) _ G _ (Nw.mut rl h1 h2 (RpAll.append h4 p1)) .non trivial q2
        | _ => exact q'.elim
theorem d_ext {wo : WE} {ws : WA} (ho : DE X c o wo) (ha : DA X c [e] ws) (hbase : attributeBase o "extend" X.env (eval o X.env) = eval o X.env := by rfl)
    (hfew : ((backTo cpos (starEach [e] X.env)).all (fun x => !x.1) && (backToKw cpos (keywordEach [] X.env)).all (fun x => x.1.isSome) && decide ([e].length + ([] : List Keyword).length + (if ([] : List Keyword).isEmpty then 0 else 1) < 30)) = true := by rfl)
    (hline : (apos.endLine == cpos.line) = true := by rfl) (hs : starEach [e] X.env = (false, eval e X.env) :: starEach [] X.env := by rfl) (hplain : (backTo cpos (starEach [] X.env)).any (·.1) = false := by rfl) : DE X c (.Call (.Attribute o "extend" apos) [e] [] cpos) (wM "list" fExt wo ws) :=
  d_bm PySem.F.plainAttrs_list PySem.F.slot_list_extend PySem.F.type_list_extend mt_extend s_ext ho ha hbase hfew hline hs hplain
/-- xs.pop() -/
def fPop0 : FM := fun r rs ρ Qd => rs = [] ∧ owAt r ρ fun i l ds => match ds[ds.length - 1]? with
  | some d => Qd (.im d) (ρ.set i (.ow l ds.dropLast))
  | none => False
theorem rp_dropLast {K : PySem.W.Frag} {G : Hp} {vs : List V} {ds : List D} (h : RpAll K G vs ds) : RpAll K G vs.dropLast ds.dropLast := by
  rw [List.dropLast_eq_take, List.dropLast_eq_take, RpAll.length h]
  exact RpAll.take _ h
theorem s_pop0 : SndM c rPop fPop0 := fun G H σ ρ v r vs rs Qd Q rl hc rr rrs q hg => by
  obtain ⟨rfl, q⟩ := q
  obtain ⟨i, l, ds, a, us, rfl, h1, h2, rfl, h3, h4, q2⟩ := owAt_ok rl rr q
  cases e : ds[ds.length - 1]? with
  | none => rw [e] at q2; exact q2.elim
  | some d =>
    rw [e] at q2
    obtain ⟨y, h5, h6⟩ := RpAll.get h4 e
    refine ⟨a, us, y, rfl, ?_, h3, by rw [RpAll.length h4]; exact h5, hg y (.im d) _ G _ (Nw.mut rl h1 h2 (rp_dropLast h4)) h6 trivial q2⟩
    cases rrs
    rfl
end
end Tr

namespace Tr
open PySem L2

/-! ### comprehensions -/
section
variable {X : Cx} {c : Ct} {elt tg iter : Expr} {ifs : List Expr} {scope : Scope} {own : List (Str × Nat)} {pos spos py : Pos} {pr : Bool} {wi : WI} {g : WG} {t : WT} {we : WE}
/-- the context of a comprehension's block -/
abbrev blkX (X : Cx) (scope : Scope) (s : Shared) (H : Hp) (C : Addr) (cl : List (Str × Addr)) (fp : List Addr) : Cx := X.blk s H scope (compEnvC scope cl C X.env) fp
theorem d_lc (hc : X.calm = true) (hN : X.N.Nodup) (ok : blkC X.N X.env.scope scope own = true) (hi : DI pr X c tg iter wi)
    (hg : ∀ s H C cl fp, DGv pr (own.map (·.2)) (blkX X scope s H C cl fp) c.in_ tg g) (ht : ∀ s H C cl fp, DTs (blkX X scope s H C cl fp) c.in_ ifs t)
    (he : ∀ s H C cl fp, DE (blkX X scope s H C cl fp) c.in_ elt we) (hs : ∀ x, foldedSetIterable iter X.env x = pure x := by intro _; rfl) :
    DE X c (.ListComp elt [⟨tg, iter, ifs, 0⟩] scope pos) (wLc (own.map (·.2)) wi g t we) :=
  PEw (pe_lc hc hN hi (blkOk_by ok) hg ht he hs) fun σ H Q h => lc_le h
/-- name = [..] on one line, the name not of the block -/
theorem d_setLc {i : Nat} {y : Str} (hc : X.calm = true) (hN : X.N.Nodup) (hy : X.N[i]? = some y) (hyl : X.env.scope.names.lookup y = some .local)
    (hsw : swapsWith (.ListComp elt [⟨tg, iter, ifs, 0⟩] scope pos) (some (.Name y py)) spos.line X.env = pure true) (ok : blkC X.N X.env.scope scope own = true) (hi : DI pr X c tg iter wi)
    (hg : ∀ s H C cl fp, DGv pr (own.map (·.2)) (blkX X scope s H C cl fp) c.in_ tg g) (ht : ∀ s H C cl fp, DTs (blkX X scope s H C cl fp) c.in_ ifs t)
    (he : ∀ s H C cl fp, DE (blkX X scope s H C cl fp) c.in_ elt we) (hs : ∀ x, foldedSetIterable iter X.env x = pure x := by intro _; rfl) :
    DS X c (.Assign [.Name y py] (.ListComp elt [⟨tg, iter, ifs, 0⟩] scope pos) spos) (wSet i (wLc (own.map (·.2)) wi g t we)) :=
  PSw (ps_setLc hc hN hy hyl hsw hi (blkOk_by ok) hg ht he hs) fun D σ H ⟨G, ρ, P, rl, hw, h1, h2, h3, h4, h5⟩ =>
    lc_le ⟨G, ρ, _, P.ex, rl, hw, fun v r ρ1 G1 H1 n1 rr fr q => by
      obtain ⟨G2, ρ2, n2, q2⟩ := st_ok rl n1 rr fr q
      exact h1 _ ρ2 G2 H1 n2 q2, h5⟩
end

/-! ### defs -/
/-- all arguments by keyword, in the opposite order -/
def backArgs {α : Type} : List α → List α → List α
  | [], ws => ws.reverse
  | _ :: _, _ => []
/-- a def that may be called by its name; its promise by a tree transformer -/
structure Fk (P : Program) (w : World) (K : PySem.W.Frag) (mg : Str → Option Value) (base : Heap) (k : Nat) (x : Str) (ps : List Str) (n : Nat) (tw : WS) : Prop where
  ex : ∃ (f : Addr) (fd : FuncData) (N : List Str), N.length = n ∧ ps.length ≤ n ∧ FnG P w K mg base CX0 k f fd ps (spT K mg N ps.length tw) ∧ mg x = some (.ref f) ∧ PySem.W.keepIn K (.ref f) = true ∧ Binds K fd ps [] ∧
    KBinds K fd ps ps.reverse backArgs backArgs
theorem Fk.mono {P : Program} {w : World} {K : PySem.W.Frag} {mg : Str → Option Value} {base : Heap} {j k : Nat} {x : Str} {ps : List Str} {n : Nat} {tw : WS} (h : Fk P w K mg base j x ps n tw) (e : j ≤ k) : Fk P w K mg base k x ps n tw := by
  obtain ⟨f, fd, N, h1, h2, F, h3⟩ := h
  exact ⟨f, fd, N, h1, h2, F.mono e, h3⟩
/-- a def of the module as the top has written it -/
structure Df (K : PySem.W.Frag) (mg : Str → Option Value) (x : Str) (st : Stmt) (ps : List Str) : Prop where
  ex : ∃ (f : Addr) (fd : FuncData), Fun K x x st f fd ∧ mg x = some (.ref f) ∧ Binds K fd ps [] ∧ KBinds K fd ps ps.reverse backArgs backArgs
theorem kbinds_of {K : PySem.W.Frag} {fd : FuncData} {ps : List Str} (h : ∀ ws : List Value, ws.length = ps.length → bindArgs fd ⟨[], ps.reverse.zip ws⟩ = pure (ps.zip ws.reverse)) (hp : ps ≠ []) : KBinds K fd ps ps.reverse backArgs backArgs := by
  refine ⟨fun s us ws _ hl => ?_, fun {vs us zs ws} r rz => ?_⟩
  · cases us with
    | nil =>
      have hl' : ws.length = ps.length := by rw [← hl]; exact (List.length_reverse (as := ws)).symm
      exact .of_eq (h ws hl')
    | cons u us =>
      have hl' : 0 = ps.length := hl
      exact absurd (List.eq_nil_of_length_eq_zero hl'.symm) hp
  · cases r with
    | nil => exact rz.reverse
    | cons _ _ => exact .nil
/-- the context of a def's body -/
abbrev cxD (P : Program) (w : World) (K : PySem.W.Frag) (mg : Str → Option Value) (base : Heap) (N : List Str) (x : Str) (sm : Stmt) (f : Addr) (cdv : Value) (A : Around) (outer : List Env) (s : Shared) (H : Hp) (E : XK) : Cx := cxOf CX0 P w K mg base N x (defScope sm) f cdv A outer s H E
/-- what a def's body is asked to keep -/
def Bd (P : Program) (w : World) (K : PySem.W.Frag) (mg : Str → Option Value) (base : Heap) (k : Nat) (N : List Str) (x : Str) (sm : Stmt) (tw : WS) : Prop :=
  ∀ (f : Addr) (cdv : Value) (A : Around) (outer : List Env) (s : Shared) (H : Hp) (E : XK) (pa : Pa) (le : Le), Rm k (A.deeper (PyProof.Rows.envOfC x (defScope sm) s.heap.objs.size f cdv)) →
    DSs (cxD P w K mg base N x sm f cdv A outer s H E) ⟨K, mg, pa, le, E⟩ (defBody sm) tw
section
variable {P : Program} {w : World} {K : PySem.W.Frag} {mg : Str → Option Value} {base : Heap} {k n : Nat} {x : Str} {sm : Stmt} {N ps : List Str} {tw : WS}
/-- a def by a promise -/
theorem fk_fn (F : Df K mg x sm ps) (hn : N.length = n) (hp : ps.length ≤ n) (h : ∀ f fd, Fun K x x sm f fd → FnG P w K mg base CX0 k f fd ps (spT K mg N ps.length tw)) : Fk P w K mg base k x ps n tw := by
  obtain ⟨f, fd, h1, h2, h3, h4⟩ := F
  exact ⟨f, fd, N, hn, hp, h f fd h1, h2, h1.kp, h3, h4⟩
/-- a def by its body -/
theorem fk_of (F : Df K mg x sm ps) (S : FnScope N ps (defScope sm)) (hn : N.length = n) (hp : ps.length ≤ n) (hb : Bd P w K mg base k N x sm tw) : Fk P w K mg base (k + 1) x ps n tw :=
  fk_fn F hn hp fun f fd h1 => FnG.of_body h1 S (fun vs H Q E q => q.1) fun cdv A outer s H vs Q E hr q => by
    obtain ⟨_, pa, le, q⟩ := q
    exact ⟨_, hb f cdv A outer s H E pa le hr, q⟩
end

/-! ### calls of defs -/
section
variable {X : Cx} {c : Ct} {k n np : Nat} {x : Str} {ps : List Str} {tw : WS} {p pos : Pos} {e : Expr} {es : List Expr} {kws : List Keyword} {ws : WA} {nm : Option Str} {kpos : Pos} {we : WE}
theorem d_fn (F : Fk X.prog X.w X.K X.mg X.base k x ps n tw) (hK : X.K = c.K) (hM : X.mg = c.mg) (hr : Rm k X.A) (hg : Gl X x) (ha : DA X c (e :: es) ws) (hdb : (x == ("__debug__" : Str)) = false := by decide)
    (he : starEach (e :: es) X.env = (false, eval e X.env) :: starEach es X.env := by rfl) (hpl : (backTo pos (starEach es X.env)).any (·.1) = false := by rfl) (hnp : ps.length = np := by rfl) : DE X c (.Call (.Name x p) (e :: es) [] pos) (wCallL n np tw ws) := by
  subst hnp
  obtain ⟨f, fd, N, rfl, hp, F, h1, h2, h3, h4⟩ := F
  exact d_call (ds := []) (dvs := []) hK hM F hp hr hg h1 h2 h3 ha hdb he hpl
abbrev DK (X : Cx) (c : Ct) (kws : List Keyword) (ws : WA) : Prop := PK X kws (LA c ws)
theorem PKw {t t' : TA} (h : PK X kws t) (i : ∀ σ H Q, t' σ H Q → t σ H Q) : PK X kws t' := ⟨fun pos pins s σ H Q I hq => h.run pos pins s σ H Q I (i σ H Q hq)⟩
theorem d_kN : DK X c [] wN := PKw pk_nil fun σ H Q ⟨G, ρ, Qd, Qx, rl, hw, hQ, hX⟩ => hQ [] [] ρ G H (Nw.refl rl) .nil hw
theorem d_kC {wa : WE} {ws : WA} (ha : DE X c e wa) (hs : DK X c kws ws) : DK X c (⟨nm, e, kpos⟩ :: kws) (wCons wa ws) := by
  refine PKw (pk_cons ha hs) fun σ H Q ⟨G, ρ, Qd, Qx, rl, hw, hQ, hX⟩ => ?_
  refine ⟨G, ρ, _, Qx, rl, hw, fun v r ρ1 G1 H1 n1 rr fr q => ?_, hX⟩
  obtain ⟨G2, n2, _, rr2⟩ := n1.pin rl rr fr
  refine ⟨G2, ρ1, _, Qx, n2.r, q, fun vs rs ρ3 G3 H3 n3 rr3 q3 => ?_, hX.trans rl n2⟩
  exact hQ (v :: vs) (pin r :: rs) ρ3 G3 H3 (n2.trans rl n3) (.cons ⟨pin_calm r, calm_RR (pin_calm r) n3.a.g rr2⟩ rr3) q3
/-- the arguments stand the other way about -/
def wBackA (ws : WA) : WA := fun ρ Qd Qx => ws ρ (fun rs ρ1 => Qd rs.reverse ρ1) Qx
theorem paired_snoc {α β : Type} {r : α → β → Prop} : ∀ {xs : List α} {ys : List β} {x : α} {y : β}, Paired r xs ys → r x y → Paired r (xs ++ [x]) (ys ++ [y])
  | _, _, _, _, .nil, h => .cons h .nil
  | _, _, _, _, .cons h1 t, h => .cons h1 (paired_snoc t h)
theorem paired_rev {α β : Type} {r : α → β → Prop} : ∀ {xs : List α} {ys : List β}, Paired r xs ys → Paired r xs.reverse ys.reverse
  | _, _, .nil => .nil
  | _, _, .cons h t => by
    rw [List.reverse_cons, List.reverse_cons]
    exact paired_snoc (paired_rev t) h
theorem d_fnK (F : Fk X.prog X.w X.K X.mg X.base k x ps n tw) (hK : X.K = c.K) (hM : X.mg = c.mg) (hr : Rm k X.A) (hg : Gl X x) (ha : DK X c kws ws) (hall : (backToKw pos (keywordEach kws X.env)).all (·.1.isSome) = true := by rfl) (hks : (backToKw pos (keywordEach kws X.env)).filterMap (·.1) = ps.reverse := by rfl)
    (hpl : ((backTo pos (starEach [] X.env)).any (·.1) || (backToKw pos (keywordEach kws X.env)).any (·.1.isNone)) = false := by rfl) (hdb : (x == ("__debug__" : Str)) = false := by decide) (hnp : ps.length = np := by rfl) : DE X c (.Call (.Name x p) [] kws pos) (wCallL n np tw (wBackA ws)) := by
  subst hnp
  obtain ⟨f, fd, N, rfl, hp, F, h1, h2, h3, h4⟩ := F
  refine ⟨fun pins s σ H Q I ⟨G, ρ, Qd, Qx, rl, hw, hQ, hX⟩ => wpAny_Call_Name_kw (ld_glob I hg h1 ?_ hdb)⟩
  refine PySem.W.callWith_KW0 (h₀ := X.base) I.ok.mod.kin h2 hall (thn (ha.run pos pins s σ H (fun vs H1 => spT X.K X.mg N ps.length tw (backArgs [] vs) H1 Q E0) I ⟨G, ρ, _, Qx, rl, hw, fun vs rs ρ1 G1 H1 n1 rr q => ?_, hX⟩) fun ws s2 ⟨zs, H2, I2, rz, q2⟩ => ⟨I2.kIn, ?_⟩) hpl
  · obtain ⟨hl, q⟩ := q
    rw [hK, hM]
    exact sp_call hp n1.r (paired_rev rr) hl q (fun v r ρ' G' H' n2 rr2 fr2 q2 => hQ v r ρ' G' H' (n1.trans rl n2) rr2 (fr2.trans n1) q2) fun _ _ _ _ _ _ _ _ _ z => z.elim
  · rw [hks]
    exact run_g (args := ⟨[], ps.reverse.zip ws⟩) (us := backArgs [] ws) F hr pass0 I2 (h4.rel .nil rz) (fun hl => h4.to s2 [] ws I2.kIn hl) q2
end
end Tr

namespace Tr
open PySem L2

/-! ### drawing -/
/-- a drawn number below n -/
def Dr (n r : Int) : Prop := 0 ≤ r ∧ (r < n ∨ r = 0)
def wOf : WS := fun P ρ => 3 < ρ.length ∧ ∃ n : Int, ρ[0]? = some .pot ∧ ρ[1]? = some (.im (.int n)) ∧ n < 4611686018427387904 ∧ ∀ r, Dr n r → ∀ ρ', P.rt (.im (.int r)) ρ'
theorem Nw.drawn {K : PySem.W.Frag} {pa : Pa} {le : Le} {G H H' : Hp} {σ σ' : L2.St} {ρ : Rn} {p : Addr × Addr} (rl : Rel K pa le G H σ ρ) (hp : pa = some p) (k : ∀ b o, H b = some o → b ≠ p.1 → b ≠ p.2 → H' b = some o) (ok : PotOk H' p) (hl : σ'.length = σ.length) : Nw K pa le G H σ ρ G H' σ' (ρ.map fun _ => .no) := by
  have nown : ∀ b, ¬ Own σ' (ρ.map fun _ => Sl.no) b := fun b ⟨i, l, ds, e, _⟩ => by
    rw [List.getElem?_map] at e
    cases h : ρ[i]? with
    | none => rw [h] at e; cases e
    | some s => rw [h] at e; cases e
  have out : ∀ b, ¬ PotAt pa b → b ≠ p.1 ∧ b ≠ p.2 := fun b h => ⟨fun z => h ⟨p, hp, .inl z⟩, fun z => h ⟨p, hp, .inr z⟩⟩
  obtain ⟨_, g1, g2⟩ := rl.pot p hp
  refine ⟨⟨Same.refl G, fun b o e n1 n2 => k b o e (out b n2).1 (out b n2).2, fun b hb => .inl hb, fun b hb => ?_⟩, fun b hb => (nown b hb).elim, ⟨fun b o e => ?_, by rw [List.length_map, rl.len, hl], fun i s e => ?_, fun i j l l' ds ds' a e1 _ _ _ => ?_, fun q e => ?_, fun b hb => (nown b hb).elim⟩⟩
  · cases e : H b with
    | none => rfl
    | some o =>
      by_cases h1 : b = p.1
      · subst h1; exact absurd hb ok.at_.1
      · by_cases h2 : b = p.2
        · subst h2; exact absurd hb ok.at_.2
        · rw [k b o e h1 h2] at hb; cases hb
  · refine k b o (rl.ext b o e) (fun z => ?_) fun z => ?_
    · rw [z, g1] at e; cases e
    · rw [z, g2] at e; cases e
  · rw [List.getElem?_map] at e
    have hi : i < ρ.length := by
      cases h : ρ[i]? with
      | none => rw [h] at e; cases e
      | some _ => exact (List.getElem?_eq_some_iff.mp h).1
    rw [rl.len, ← hl] at hi
    refine ⟨σ'[i], List.getElem?_eq_getElem hi, ?_⟩
    cases h : ρ[i]? with
    | none => rw [h] at e; cases e
    | some _ => rw [h] at e; cases e; trivial
  · rw [List.getElem?_map] at e1
    cases h : ρ[i]? with
    | none => rw [h] at e1; cases e1
    | some _ => rw [h] at e1; cases e1
  · rw [hp] at e; cases e
    exact ⟨ok, g1, g2⟩
/-- a body draws, by the values -/
theorem draw_ok {c : Ct} {D : Ends} {H : Hp} {σ : L2.St} (h : LS c wOf D σ H) : ∃ (p : Addr × Addr) (n : Int), σ[0]? = some (some (.ref p.1)) ∧ σ[1]? = some (some (.int n)) ∧ n < 4611686018427387904 ∧ 3 < σ.length ∧ PotOk H p ∧
    ∀ (r : Int) (H' : Hp) (σ' : L2.St), Dr n r → (∀ b o, H b = some o → b ≠ p.1 → b ≠ p.2 → H' b = some o) → PotOk H' p → σ'.length = σ.length → D.rt (.int r) H' := by
  obtain ⟨G, ρ, P, rl, ⟨hl3, n, e0, e1, hn, q⟩, h1, h2, h3, h4, h5⟩ := h
  obtain ⟨ov, z1, p, z2, z3⟩ := rl.sl 0 _ e0
  obtain ⟨ov1, y1, v, y2, y3⟩ := rl.sl 1 _ e1
  rw [z3] at z1
  rw [y2] at y1
  cases y3
  refine ⟨p, n, z1, y1, hn, by rw [← rl.len]; exact hl3, (rl.pot p z2).1, fun r H' σ' hr k ok hl => ?_⟩
  exact h2 (.int r) (.im (.int r)) σ' _ G H' (Nw.drawn rl z2 k ok hl) (.int r) trivial (q r hr _)
end Tr

namespace Tr
open PySem L2

/-! ### a, b = x, y -/
/-- a result that no store to a name moves -/
def hold (r : R) (ρ : Rn) (Q : R → Rn → Prop) : Prop := match r with
  | .sl i => fz (.sl i) ρ fun d ρ1 => Q (.im d) ρ1
  | r => Q r ρ
def R.loose : R → Prop
  | .sl _ => False
  | _ => True
section
variable {c : Ct}
theorem hold_ok {G0 H0 G H : Hp} {σ0 σ : L2.St} {ρ0 ρ : Rn} {v : V} {r : R} {Q : R → Rn → Prop} (r0 : Rel c.K c.pa c.le G0 H0 σ0 ρ0) (n : Nw c.K c.pa c.le G0 H0 σ0 ρ0 G H σ ρ) (h : RR c.K c.pa G H σ ρ v r) (fr : Frs H0 σ0 ρ0 v r) (q : hold r ρ Q) :
    ∃ G' ρ' r', Nw c.K c.pa c.le G0 H0 σ0 ρ0 G' H σ ρ' ∧ Nw c.K c.pa c.le G H σ ρ G' H σ ρ' ∧ RR c.K c.pa G' H σ ρ' v r' ∧ Frs H0 σ0 ρ0 v r' ∧ R.loose r' ∧ Q r' ρ' := by
  cases r with
  | im d => exact ⟨G, ρ, _, n, Nw.refl n.r, h, fr, trivial, q⟩
  | tm ds => exact ⟨G, ρ, _, n, Nw.refl n.r, h, fr, trivial, q⟩
  | dead => exact ⟨G, ρ, _, n, Nw.refl n.r, h, fr, trivial, q⟩
  | pot => exact ⟨G, ρ, _, n, Nw.refl n.r, h, fr, trivial, q⟩
  | sl i =>
    have q' : fz (.sl i) ρ (fun d ρ1 => Q (.im d) ρ1) := q
    obtain ⟨G1, d, ρ1, s1, A1, O1, _, r1, hd, q1⟩ := fz_ok n.r Aft.refl Ow.refl n.r h trivial q'
    have n1 : Nw c.K c.pa c.le G H σ ρ G1 H σ ρ1 := ⟨A1, O1, r1⟩
    exact ⟨G1, ρ1, .im d, n.trans r0 n1, n1, hd, trivial, trivial, q1⟩
/-- a loose result through what comes next -/
theorem RR.thru {G H G' H' : Hp} {σ σ' : L2.St} {ρ ρ' : Rn} {v : V} {r : R} (h : RR c.K c.pa G H σ ρ v r) (l : R.loose r) (n : Nw c.K c.pa c.le G H σ ρ G' H' σ' ρ') : RR c.K c.pa G' H' σ' ρ' v r := by
  cases r with
  | im d => exact Rp.mono n.a.g _ _ h
  | pot => exact h
  | sl i => exact l.elim
  | dead => trivial
  | tm ds =>
    obtain ⟨a, vs, rfl, g, hh, ra, n1, n2⟩ := h
    obtain ⟨k1, k2, k3⟩ := n.kept hh g n1 n2
    exact ⟨a, vs, rfl, k2, k1, ra.mono n.a.g, k3, n2⟩
/-- storing a loose result: what is known stays -/
theorem stl_ok {G0 H0 G H : Hp} {σ0 σ : L2.St} {ρ0 ρ : Rn} {v : V} {r : R} {i : Nat} {Q : Rn → Prop} (r0 : Rel c.K c.pa c.le G0 H0 σ0 ρ0) (n : Nw c.K c.pa c.le G0 H0 σ0 ρ0 G H σ ρ) (h : RR c.K c.pa G H σ ρ v r) (fr : Frs H0 σ0 ρ0 v r) (l : R.loose r) (q : st i r ρ Q) :
    ∃ ρ', Nw c.K c.pa c.le G0 H0 σ0 ρ0 G H (σ.set i (some v)) ρ' ∧ Q ρ' ∧ ∀ b, Own (σ.set i (some v)) ρ' b → Own σ ρ b ∨ (v = .ref b ∧ ∃ ds, r = .tm ds) := by
  cases r with
  | im d =>
    refine ⟨_, n.trans r0 (Nw.store_im n.r h), q, fun b hb => ?_⟩
    obtain ⟨_, o1⟩ := Nw.store (i := i) (s := .im d) (x := some v) n.r ⟨v, rfl, h⟩ (fun l ds e => nomatch e)
    rcases o1 b hb with z | ⟨_, l, ds, e⟩
    · exact .inl z
    · cases e
  | pot =>
    refine ⟨_, n.trans r0 (Nw.store_pot n.r h), q, fun b hb => ?_⟩
    obtain ⟨p, e1, e2⟩ := h
    obtain ⟨_, o1⟩ := Nw.store (i := i) (s := .pot) (x := some v) n.r ⟨p, e1, by rw [e2]⟩ (fun l ds e => nomatch e)
    rcases o1 b hb with z | ⟨_, l, ds, e⟩
    · exact .inl z
    · cases e
  | sl i => exact l.elim
  | dead => exact q.elim
  | tm ds =>
    obtain ⟨a, vs, rfl, g, hh, ra, n1, n2⟩ := h
    obtain ⟨r1, o1⟩ := Nw.store (i := i) (s := .own false ds) (x := some (.ref a)) n.r ⟨a, vs, rfl, g, hh, ra, fun z => nomatch z⟩
      (fun l es e => ⟨a, rfl, n2, fun j l' es' _ e1 e2 => n1 ⟨j, l', es', e1, e2⟩⟩)
    refine ⟨_, ⟨n.a, fun b hb => ?_, r1⟩, q, fun b hb => ?_⟩
    · rcases o1 b hb with z | ⟨z, _⟩
      · exact n.o b z
      · cases z
        exact (fr a rfl).symm
    · rcases o1 b hb with z | ⟨z, _⟩
      · exact .inl z
      · cases z
        exact .inr ⟨rfl, _, rfl⟩
/-- a loose result beside another store -/
theorem RR.beside {G H : Hp} {σ σ' : L2.St} {ρ ρ' : Rn} {v : V} {r : R} (h : RR c.K c.pa G H σ ρ v r) (l : R.loose r) (o : ∀ b ds, r = .tm ds → v = .ref b → ¬ Own σ' ρ' b) : RR c.K c.pa G H σ' ρ' v r := by
  cases r with
  | im d => exact h
  | pot => exact h
  | sl i => exact l.elim
  | dead => trivial
  | tm ds =>
    obtain ⟨a, vs, rfl, g, hh, ra, n1, n2⟩ := h
    exact ⟨a, vs, rfl, g, hh, ra, o a ds rfl rfl, n2⟩
end
def wPar (i j : Nat) (wa wb : WE) : WS := fun P ρ => wa ρ (fun r ρ1 => hold r ρ1 fun r1 ρ2 => wb ρ2 (fun r' ρ3 => hold r' ρ3 fun r2 ρ4 => st i r1 ρ4 fun ρ5 => st j r2 ρ5 P.nx) P.ex) P.ex
section
variable {X : Cx} {c : Ct} {a b d : Expr} {pos : Pos} {wa wb wd : WE}
/-- two results held, both fit to be stored -/
theorem par_ok {i j : Nat} {G0 H0 G H : Hp} {σ0 σ : L2.St} {ρ0 ρ : Rn} {v v' : V} {r r' : R} {Q : Rn → Prop} (r0 : Rel c.K c.pa c.le G0 H0 σ0 ρ0) (n : Nw c.K c.pa c.le G0 H0 σ0 ρ0 G H σ ρ) (h : RR c.K c.pa G H σ ρ v r) (fr : Frs H0 σ0 ρ0 v r) (l : R.loose r)
    (h' : RR c.K c.pa G H σ ρ v' r') (fr' : Frs H0 σ0 ρ0 v' r') (l' : R.loose r') (ne : ∀ ds ds' b, r = .tm ds → r' = .tm ds' → v = .ref b → v' ≠ .ref b) (q : st i r ρ fun ρ5 => st j r' ρ5 Q) :
    ∃ ρ', Nw c.K c.pa c.le G0 H0 σ0 ρ0 G H ((σ.set i (some v)).set j (some v')) ρ' ∧ Q ρ' := by
  obtain ⟨ρ5, n5, q5, o5⟩ := stl_ok r0 n h fr l q
  have h5 : RR c.K c.pa G H (σ.set i (some v)) ρ5 v' r' := RR.beside h' l' fun b ds e1 e2 z => by
    rcases o5 b z with y | ⟨y, ds2, e3⟩
    · subst e1
      obtain ⟨a, vs, e4, _, _, _, n1, _⟩ := h'
      rw [e2] at e4; cases e4
      exact n1 y
    · exact ne ds2 ds b e3 e1 y e2
  obtain ⟨ρ6, n6, q6, _⟩ := stl_ok r0 n5 h5 fr' l' q5
  exact ⟨ρ6, n6, q6⟩
theorem d_par {i j : Nat} {x y : Str} {px py pt : Pos} {kt k2 : Nat} {pt2 : Pos} (hc : X.calm = true) (hN : X.N.Nodup) (hi : X.N[i]? = some x) (hj : X.N[j]? = some y) (hij : i ≠ j) (hx : X.env.scope.names.lookup x = some .local) (hy : X.env.scope.names.lookup y = some .local)
    (ha : DE X c a wa) (hb : DE X c b wb) (hw : swappedStores [.Tuple [.Name x px, .Name y py] kt pt] (.Tuple [a, b] k2 pt2) X.env = pure (some [x, y])) (hsa : starEach [a, b] X.env = (false, eval a X.env) :: starEach [b] X.env := by rfl) (hsb : starEach [b] X.env = (false, eval b X.env) :: starEach [] X.env := by rfl)
    (hs : swapsWithSole [.Tuple [.Name x px, .Name y py] kt pt] (.Tuple [a, b] k2 pt2) pos.line X.env = pure false := by rfl) :
    DS X c (.Assign [.Tuple [.Name x px, .Name y py] kt pt] (.Tuple [a, b] k2 pt2) pos) (wPar i j wa wb) :=
  PSw (ps_par hc hN hi hj hij hx hy (pa_cons ha (pa_cons hb pa_nil hsb) hsa) hw hs) fun D σ H ⟨G, ρ, P, rl, hw, g1, g2, g3, g4, g5⟩ => ⟨G, ρ, _, P.ex, rl, hw, fun v r ρ1 G1 H1 n1 rr fr q => by
    obtain ⟨G2, ρ2, r1, n2, _, rr1, fr1, l1, q1⟩ := hold_ok rl n1 rr fr q
    refine ⟨G2, ρ2, _, P.ex, n2.r, q1, fun v' r' ρ3 G3 H3 n3 rr3 fr3 q3 => ?_, g5.trans rl n2⟩
    obtain ⟨G4, ρ4, r2, n4, n34, rr4, fr4, l4, q4⟩ := hold_ok n2.r n3 rr3 fr3 q3
    have rr1' := RR.thru rr1 l1 n4
    obtain ⟨ρ6, n6, q6⟩ := par_ok rl (n2.trans rl n4) rr1' fr1 l1 rr4 (fr4.trans n2) l4 (fun ds ds' b e1 e2 e3 e4 => by
      subst e1 e2
      obtain ⟨a1, vs1, f1, _, f3, _, f5, _⟩ := rr1
      rw [e3] at f1; cases f1
      rcases fr4 b e4 with z | z
      · rw [f3] at z; cases z
      · exact f5 z) q4
    exact ⟨v, v', rfl, g1 _ _ _ _ n6 q6⟩, g5⟩

/-! a list or a tuple taken apart -/
theorem PGor {tg : Expr} {t t' : TG} (h : PG X tg t) (h' : PG X tg t') : PG X tg fun v σ H Q => t v σ H Q ∨ t' v σ H Q := ⟨fun pins s σ H v u Q I r q => by
  rcases q with q | q
  · exact h.run pins s σ H v u Q I r q
  · exact h'.run pins s σ H v u Q I r q⟩
def wgQ (n : Nat) (gs : WGs) : WG := fun d ρ Q Qx => match d with
  | .tuple ds => ds.length = n ∧ gs ds ρ Q Qx
  | .list ds => ds.length = n ∧ gs ds ρ Q Qx
  | _ => False
theorem d_gQ {es : List Expr} {k : Nat} {gs : WGs} {n : Nat} (hK : X.K = c.K) (hc : X.calm = true) (h : DGs X c es gs) (hn : (assignEach es X.env).length = n := by rfl) (hst : (assignEach es X.env).findIdx? (·.1) = none := by rfl) : DG X c (.Tuple es k pos) (wgQ n gs) :=
  PGw (PGor (pg_tup hc h hn hst) (pg_lst hc h hn hst)) fun v σ H Q ⟨G, ρ, d, Qd, Qx, rl, hd, hw, hQ, hX⟩ => by
    cases d with
    | tuple ds =>
      obtain ⟨hl, hw⟩ := hw
      cases hd with
      | tup h1 h2 =>
        refine .inl ⟨_, _, rfl, ?_, by rw [RpAll.length h2]; exact hl, G, ρ, ds, Qd, Qx, rl, h2, hw, hQ, hX⟩
        rw [hK]
        exact (h1.mono rl.ext).sq
    | list ds =>
      obtain ⟨hl, hw⟩ := hw
      cases hd with
      | lst h1 h2 =>
        refine .inr ⟨_, _, rfl, ?_, by rw [RpAll.length h2]; exact hl, G, ρ, ds, Qd, Qx, rl, h2, hw, hQ, hX⟩
        exact SqL.of (rl.ext _ _ h1)
    | _ => exact hw.elim
end
end Tr

namespace Tr
open PySem L2

section
variable {X : Cx} {c : Ct} {o a b e : Expr} {es : List Expr} {apos cpos : Pos}
/-- xs.pop(i) -/
def fPopI : FM := fun r rs ρ Qd => match rs with
  | [x] => (match vw ρ x with
    | some (.int i) => owAt r ρ fun j l ds => ds.length ≤ 100000 ∧ (match ixN ds.length i with
      | some k => (match ds[k]? with
        | some d => Qd (.im d) (ρ.set j (.ow l (ds.eraseIdx k)))
        | none => False)
      | none => False)
    | _ => False)
  | _ => False
theorem s_popI : SndM c rPopAt fPopI := fun G H σ ρ v r vs rs Qd Q rl hc rr rrs q hg => by
  cases rrs with
  | nil => exact q.elim
  | cons r1 rest =>
    cases rest with
    | cons _ _ => exact q.elim
    | nil =>
      rename_i v1 x
      cases e1 : vw ρ x with
      | none =>
        simp only [fPopI, e1] at q
      | some d =>
        cases d with
        | int i =>
          simp only [fPopI, e1] at q
          have ex := vw_int rl r1.2 e1
          subst ex
          obtain ⟨j, l, ds, a1, us, rfl, h1, h2, rfl, h3, h4, hz, q2⟩ := owAt_ok rl rr q
          cases e2 : ixN ds.length i with
          | none => rw [e2] at q2; exact q2.elim
          | some k =>
            rw [e2] at q2
            simp only at q2
            cases e3 : ds[k]? with
            | none => rw [e3] at q2; exact q2.elim
            | some d =>
              rw [e3] at q2
              obtain ⟨y, h5, h6⟩ := RpAll.get h4 e3
              obtain ⟨g1, g2, g3, g4⟩ := ixN_seq e2
              refine ⟨a1, us, i, k, y, rfl, rfl, h3, by omega, by omega, by rw [RpAll.length h4]; exact g1, h5, ?_⟩
              exact hg y (.im d) _ G _ (Nw.mut rl h1 h2 (RpAll.erase k h4)) h6 trivial q2
        | _ => simp only [fPopI, e1] at q
theorem d_popI {wo : WE} {ws : WA} (ho : DE X c o wo) (ha : DA X c [e] ws) (hbase : attributeBase o "pop" X.env (eval o X.env) = eval o X.env := by rfl)
    (hfew : ((backTo cpos (starEach [e] X.env)).all (fun x => !x.1) && (backToKw cpos (keywordEach [] X.env)).all (fun x => x.1.isSome) && decide ([e].length + ([] : List Keyword).length + (if ([] : List Keyword).isEmpty then 0 else 1) < 30)) = true := by rfl)
    (hline : (apos.endLine == cpos.line) = true := by rfl) (hs : starEach [e] X.env = (false, eval e X.env) :: starEach [] X.env := by rfl) (hplain : (backTo cpos (starEach [] X.env)).any (·.1) = false := by rfl) : DE X c (.Call (.Attribute o "pop" apos) [e] [] cpos) (wM "list" fPopI wo ws) :=
  d_bm PySem.F.plainAttrs_list PySem.F.slot_list_pop PySem.F.type_list_pop mt_popAt s_popI ho ha hbase hfew hline hs hplain
theorem d_pop0 {wo : WE} (ho : DE X c o wo) (hbase : attributeBase o "pop" X.env (eval o X.env) = eval o X.env := by rfl) (hline : (apos.endLine == cpos.line) = true := by rfl) : DE X c (.Call (.Attribute o "pop" apos) [] [] cpos) (wM0 "list" fPop0 wo) :=
  d_bm0 PySem.F.plainAttrs_list PySem.F.slot_list_pop PySem.F.type_list_pop mt_pop s_pop0 ho hbase hline
/-- xs.insert(i, y), i not below 0 -/
def fIns : FM := fun r rs ρ Qd => match rs with
  | [x, y] => fz y ρ fun d ρ1 => (match vw ρ1 x with
    | some (.int i) => owAt r ρ1 fun j l ds => (ds.length < 100000 ∧ 0 ≤ i ∧ i ≤ 100000) ∧ Qd (.im .none) (ρ1.set j (.ow l (ds.take i.toNat ++ [d] ++ ds.drop i.toNat)))
    | _ => False)
  | _ => False
theorem s_ins : SndM c (fun x vs H Q => ∃ (l : Addr) (xs : List V) (i : Int) (y : V), x = .ref l ∧ vs = [.int i, y] ∧ H l = some (.lst xs) ∧ xs.length < sizeLine ∧ 0 ≤ i ∧ i < 2 ^ 63 ∧ Q .non (upd H l (.lst (xs.take i.toNat ++ [y] ++ xs.drop i.toNat)))) fIns := fun G H σ ρ v r vs rs Qd Q rl hc rr rrs q hg => by
  cases rrs with
  | nil => exact q.elim
  | cons r1 rest =>
    cases rest with
    | nil => exact q.elim
    | cons r2 rest =>
      cases rest with
      | cons _ _ => exact q.elim
      | nil =>
        rename_i v1 x v2 y
        have q' : fz y ρ (fun d ρ1 => (match vw ρ1 x with
          | some (.int i) => owAt r ρ1 fun j l ds => (ds.length < 100000 ∧ 0 ≤ i ∧ i ≤ 100000) ∧ Qd (.im .none) (ρ1.set j (.ow l (ds.take i.toNat ++ [d] ++ ds.drop i.toNat)))
          | _ => False)) := q
        obtain ⟨G1, d, ρ1, s1, A1, O1, O2, rl1, hd, q1⟩ := fz_ok rl Aft.refl Ow.refl rl r2.2 (calm_frs r2.1) q'
        have n1 : Nw c.K c.pa c.le G H σ ρ G1 H σ ρ1 := ⟨A1, O1, rl1⟩
        cases e1 : vw ρ1 x with
        | none => simp only [e1] at q1
        | some dx =>
          cases dx with
          | int i =>
            simp only [e1] at q1
            have ex := vw_int rl1 (calm_RR r1.1 s1 r1.2) e1
            subst ex
            obtain ⟨j, l, ds, a1, us, rfl, h1, h2, rfl, h3, h4, ⟨hz, hi, hi2⟩, q2⟩ := owAt_ok rl1 (calm_RR hc s1 rr) q1
            refine ⟨a1, us, i, _, rfl, rfl, h3, lt_szl (by rw [RpAll.length h4]; exact hz), hi, by omega, ?_⟩
            exact hg .non (.im .none) _ G1 _ (n1.trans rl (Nw.mut rl1 h1 h2 (RpAll.append (RpAll.append (RpAll.take _ h4) (.cons hd .nil)) (RpAll.drop _ h4)))) .non trivial q2
          | _ => simp only [e1] at q1
theorem d_ins {wo : WE} {ws : WA} (ho : DE X c o wo) (ha : DA X c [a, b] ws) (hbase : attributeBase o "insert" X.env (eval o X.env) = eval o X.env := by rfl)
    (hfew : ((backTo cpos (starEach [a, b] X.env)).all (fun x => !x.1) && (backToKw cpos (keywordEach [] X.env)).all (fun x => x.1.isSome) && decide ([a, b].length + ([] : List Keyword).length + (if ([] : List Keyword).isEmpty then 0 else 1) < 30)) = true := by rfl)
    (hline : (apos.endLine == cpos.line) = true := by rfl) (hs : starEach [a, b] X.env = (false, eval a X.env) :: starEach [b] X.env := by rfl) (hplain : (backTo cpos (starEach [b] X.env)).any (·.1) = false := by rfl) : DE X c (.Call (.Attribute o "insert" apos) [a, b] [] cpos) (wM "list" fIns wo ws) :=
  d_bm PySem.F.plainAttrs_list PySem.F.slot_list_insert PySem.F.type_list_insert mt_insert s_ins ho ha hbase hfew hline hs hplain
/-- xs.reverse() -/
def fRev : FM := fun r rs ρ Qd => rs = [] ∧ owAt r ρ fun i l ds => Qd (.im .none) (ρ.set i (.ow l ds.reverse))
theorem s_rev : SndM c rReverse fRev := fun G H σ ρ v r vs rs Qd Q rl hc rr rrs q hg => by
  obtain ⟨rfl, q⟩ := q
  obtain ⟨i, l, ds, a1, us, rfl, h1, h2, rfl, h3, h4, q2⟩ := owAt_ok rl rr q
  cases rrs
  exact ⟨a1, us, rfl, rfl, h3, hg .non (.im .none) _ G _ (Nw.mut rl h1 h2 (RpAll.reverse h4)) .non trivial q2⟩
theorem d_rev {wo : WE} (ho : DE X c o wo) (hbase : attributeBase o "reverse" X.env (eval o X.env) = eval o X.env := by rfl) (hline : (apos.endLine == cpos.line) = true := by rfl) : DE X c (.Call (.Attribute o "reverse" apos) [] [] cpos) (wM0 "list" fRev wo) :=
  d_bm0 PySem.F.plainAttrs_list PySem.F.slot_list_reverse PySem.F.type_list_reverse mt_reverse s_rev ho hbase hline
end
end Tr

namespace Tr
open PySem L2

/-! ### the law's def -/
def scrD (ns : List Int) : D := .dict [(.none, .list (ns.map PyData.int))]
/-- the list that the pot's def has returned -/
def PotR (kvs : List (Key × D)) : Prop := ∃ (cs : List Int) (m k : Int), kvs = [(.inr "great", .list (cs.map PyData.int)), (.inr "mixed", .int m), (.inr "turns", .int k)] ∧ 0 ≤ m ∧ 0 ≤ k ∧ (∀ z ∈ cs, 0 ≤ z) ∧ cs.length ≤ 64
/-- nothing is known but the pot -/
def potEnv (n i : Nat) : Rn := (List.replicate n Sl.no).set i .pot
def spLaw (K : PySem.W.Frag) : Sp := fun vs H Q _ => ∃ (a : Addr) (ns : List Int), vs = [.ref a] ∧ SqL K H a (ns.map V.int) ∧ ns.length ≤ 63 ∧ ∀ H', Q (.bl true) H'
def lawP : Po := ⟨fun _ => False, fun r _ => r = .im (.bool true), fun _ => False, fun _ => False, fun _ => False⟩
theorem rp_two {K : PySem.W.Frag} {G : Hp} {ws : List (Key × V)} {cs : List Int} {m k : Int} (h : RpKV K G ws [(.inr "great", .list (cs.map PyData.int)), (.inr "mixed", .int m), (.inr "turns", .int k)]) : ∃ b, ws = potK b m k ∧ G b = some (.lst (cs.map V.int)) := by
  cases h with
  | cons h1 t =>
    cases t with
    | cons h2 t =>
      cases t with
      | cons h3 t =>
        cases t
        cases h2
        cases h3
        cases h1 with
        | lst g1 g2 =>
          have e := RpAll.ints_inv g2
          subst e
          exact ⟨_, rfl, g1⟩
theorem potEnv_get {n i j : Nat} {s : Sl} (h : (potEnv n i)[j]? = some s) : j < n ∧ (s = .no ∨ (j = i ∧ s = .pot)) := by
  have hj : j < (potEnv n i).length := (List.getElem?_eq_some_iff.mp h).1
  unfold potEnv at h hj
  rw [List.length_set, List.length_replicate] at hj
  refine ⟨hj, ?_⟩
  by_cases e : i = j
  · subst e
    rw [List.getElem?_set_self (by rw [List.length_replicate]; exact hj)] at h
    cases h
    exact .inr ⟨rfl, rfl⟩
  · rw [List.getElem?_set_ne e, List.getElem?_replicate, if_pos hj] at h
    cases h
    exact .inl rfl
theorem rel_pot {K : PySem.W.Frag} {H : Hp} {σ : L2.St} {p : Addr × Addr} {n i : Nat} (ok : PotOk H p) (hl : σ.length = n) (hi : σ[i]? = some (some (.ref p.1))) : Rel K (some p) (fun _ => none) (fun _ => none) H σ (potEnv n i) := by
  have nown : ∀ b, ¬ Own σ (potEnv n i) b := fun b ⟨j, l, ds, e, _⟩ => by
    obtain ⟨_, z | ⟨_, z⟩⟩ := potEnv_get e <;> cases z
  refine ⟨fun b o e => (by cases e), ?_, fun j s e => ?_, fun j k l l' ds ds' a e _ _ _ => ?_, fun q e => ?_, fun b hb => (nown b hb).elim⟩
  · unfold potEnv
    rw [List.length_set, List.length_replicate, hl]
  · obtain ⟨hj, z | ⟨z1, z2⟩⟩ := potEnv_get e
    · subst z
      exact ⟨σ[j], List.getElem?_eq_getElem (by rw [hl]; exact hj), trivial⟩
    · subst z1 z2
      exact ⟨_, hi, p, rfl, rfl⟩
  · obtain ⟨_, z | ⟨_, z⟩⟩ := potEnv_get e <;> cases z
  · cases e
    exact ⟨ok, rfl, rfl⟩
section
variable {P : Program} {w : World} {K : PySem.W.Frag} {mg : Str → Option Value} {base : Heap} {k i : Nat} {N : List Str} {sm st0 : Stmt} {rest : List Stmt} {f : Addr} {fd : FuncData} {w0 w1 : WS}
/-- the law's def: its first statement makes the pot -/
theorem law_fn (F : Fun K "law" "law" sm f fd) (S : FnScope N ["script"] (defScope sm)) (hi : i < N.length) (hN : 1 ≤ N.length) (hb : defBody sm = st0 :: rest)
    (h0 : ∀ (f : Addr) (cdv : Value) (A : Around) (outer : List Env) (s : Shared) (H : Hp) (E : XK), Rm k (A.deeper (PyProof.Rows.envOfC "law" (defScope sm) s.heap.objs.size f cdv)) → DS (cxD P w K mg base N "law" sm f cdv A outer s H E) ⟨K, mg, none, fun _ => none, E⟩ st0 w0)
    (h1 : ∀ (f : Addr) (cdv : Value) (A : Around) (outer : List Env) (s : Shared) (H : Hp) (E : XK) (p : Addr × Addr), Rm k (A.deeper (PyProof.Rows.envOfC "law" (defScope sm) s.heap.objs.size f cdv)) → DSs (cxD P w K mg base N "law" sm f cdv A outer s H E) ⟨K, mg, some p, fun _ => none, E⟩ rest w1)
    (m0 : ∀ ns : List Int, ns.length ≤ 63 → w0 ⟨fun ρ => ρ.length = N.length ∧ ∃ kvs, ρ[i]? = some (.own false (.d kvs)) ∧ PotR kvs, fun _ _ => False, fun _ => False, fun _ => False, fun _ => False⟩ (.im (scrD ns) :: List.replicate (N.length - 1) .no))
    (m1 : w1 lawP (potEnv N.length i)) : FnG P w K mg base CX0 (k + 1) f fd ["script"] (spLaw K) := by
  refine FnG.of_body F S (fun vs H Q E q => ?_) fun cdv A outer s H vs Q E hr q => ?_
  · obtain ⟨a, ns, rfl, _⟩ := q
    rfl
  obtain ⟨a, ns, rfl, hS, hl, hQ⟩ := q
  rw [hb]
  refine ⟨_, pss_cons (h0 f cdv A outer s H E hr) (⟨fun pins s' σ H' D I ⟨p, q⟩ => (h1 f cdv A outer s H E p hr).run pins s' σ H' D I q⟩ : PSs _ rest fun D σ H' => ∃ p, LS ⟨K, mg, some p, fun _ => none, E⟩ w1 D σ H'), ?_⟩
  have rl0 : Rel K none (fun _ => none) H H [] [] := ⟨fun _ _ e => e, rfl, fun i s e => (by simp at e), fun i j l l' ds ds' a e _ _ _ => (by simp at e), fun p e => (by cases e), fun b ⟨i, l, ds, e, _⟩ => (by simp at e)⟩
  have hh : Handed K none H [V.ref a] [Sl.im (scrD ns)] := .im (.scr hS) .nil
  obtain ⟨rl, _⟩ := rel_start (N := N) rl0 hh hN fun _ => none
  refine ⟨H, _, _, rl, m0 ns hl, fun σ' ρ' G' H' n ⟨elen, ds, e1, e2⟩ => ?_, fun _ _ _ _ _ _ _ _ _ z => z.elim, fun _ _ _ _ _ z => z.elim, fun _ _ _ _ _ z => z.elim, fun _ _ _ _ _ _ _ _ _ z => z.elim⟩
  obtain ⟨ov, z1, b, ho, rfl, z3, z4, z5, _⟩ := n.r.sl i _ e1
  obtain ⟨cs, m, kk, rfl, hm, hk, hcs, hcl⟩ := e2
  obtain ⟨ws, rfl, z6⟩ : ∃ ws, ho = .dK ws ∧ RpKV K G' ws [(.inr "great", .list (cs.map PyData.int)), (.inr "mixed", .int m), (.inr "turns", .int kk)] := by
    cases z5 with
    | d z5 => exact ⟨_, rfl, z5⟩
  obtain ⟨b2, rfl, g2⟩ := rp_two z6
  have ok : PotOk H' (b, b2) := ⟨fun z => (by cases z; rw [z3] at g2; cases g2), ⟨_, z4, m, kk, rfl, hm, hk⟩, cs, n.r.ext _ _ g2, hcs, hcl⟩
  have hlen : σ'.length = N.length := n.r.len.symm.trans elen
  refine ⟨(b, b2), fun _ => none, _, lawP, rel_pot ok hlen z1, m1, fun _ _ _ _ _ z => z.elim, fun v r σ1 ρ1 G1 H1 n1 rr _ e => ?_, fun _ _ _ _ _ z => z.elim, fun _ _ _ _ _ z => z.elim, fun _ _ _ _ _ _ _ _ _ z => z.elim⟩
  subst e
  cases (show Rp K G1 v (.bool true) from rr)
  exact hQ H1
end

/-! ### the head -/
theorem law_callG {P : Program} {w : World} {K : PySem.W.Frag} {mg mb : Str → Option Value} {k : Nat} {g a : Addr} {fd : FuncData} {x : Str} {s : Shared} {us : List Value} {ns : List Int} (hK : K.In s.heap) (hM : s.heap.Ns mainGlobals mg) (hB : s.heap.Ns builtinsNs mb) (hB2 : ∀ y : Str, y ≠ "__name__" → mb y = bootBuiltins y)
    (hL : s.heap.NoLimit) (hG : s.gens = #[]) (hA : s.heap.get? a = some { cls := .type "list", data := .seq us.toArray }) (hI : PyProof.Rows.IntsAre us ns) (hn : ns.length ≤ 63) (hr : Rm k callerA) (F : ∀ base : Heap, K.In base → base.Ns mainGlobals mg → FnG P w K mg base CX0 k g fd [x] (spLaw K))
    (hD : ∀ (t : Shared) (u : Value), BindsTo t fd ⟨[u], []⟩ [(x, u)]) : codeAny (model P w) callerA (.call (.ref g) ⟨[.ref a], []⟩) (fun r t => r = .ok (.ret (.bool true)) ∧ OldK s.heap t.heap ∧ t.os = s.os ∧ PyProof.Rows.AllBare t.gens) s := by
  have ri := vals_ints hI
  have hz : us.length ≤ sizeLine := by
    rw [hI.length]
    exact Nat.le_trans hn (by decide)
  -- the script alone is tracked, where it is no object of the module's own
  obtain ⟨H, h1, h2, h3, h4⟩ : ∃ H : Hp, (∀ b, H b = none ∨ (b = a ∧ H b = some (.frz { cls := .type "list", data := .seq us.toArray } (.lst (ns.map V.int))))) ∧ SqL K H a (ns.map V.int) ∧ HOk P w H s.heap ∧ (H a ≠ none → K.lookup a = none) := by
    cases q : K.lookup a with
    | some o =>
      have e : o = { cls := .type "list", data := .seq us.toArray } := Option.some.inj ((hK a o q).symm.trans hA)
      subst e
      exact ⟨fun _ => none, fun _ => .inl rfl, .inr ⟨_, us.toArray, _, q, rfl, rfl, rfl, by rw [List.size_toArray]; exact hz, by simpa using ri⟩, fun b u z => (nomatch (show (none : Option HO) = some u from z)), fun z => absurd rfl z⟩
    | none =>
      refine ⟨fun b => if b = a then some (.frz { cls := .type "list", data := .seq us.toArray } (.lst (ns.map V.int))) else none, fun b => ?_, .inl (.inr ⟨_, if_pos rfl⟩), fun b u z => ?_, fun _ => rfl⟩
      · by_cases e : b = a
        · exact .inr ⟨e, if_pos e⟩
        · exact .inl (if_neg e)
      · by_cases e : b = a
        · subst e
          cases (if_pos rfl).symm.trans z
          exact ⟨hA, by rw [List.length_map]; exact Nat.le_trans hn (by decide), us, _, ri, hA⟩
        · cases (if_neg e).symm.trans z
  -- what lies under it
  have under : ∀ {b : Addr} {o : Obj}, s.heap.get? b = some o → b ≠ a → (hidT s.heap H).get? b = some o := fun {b o} e n => hidT_get e (by
    rcases h1 b with z | ⟨z, _⟩
    · exact z
    · exact absurd z n)
  have dictNe : ∀ {b : Addr} {o : Obj} {es : Array DictEntry} {n : Nat}, s.heap.get? b = some o → o.data = .dict es n → b ≠ a := fun {b o es n} e d z => by
    subst z
    rw [hA] at e
    cases e
    exact nomatch (show Data.seq us.toArray _ = Data.dict es n from d)
  have nsU : ∀ {b : Addr} {m : Str → Option Value}, s.heap.Ns b m → (hidT s.heap H).Ns b m := fun ⟨o, es, n, e, d, r⟩ => ⟨o, es, n, under e (dictNe e d), d, r⟩
  have kU : K.In (hidT s.heap H) := fun b o e => hidT_get (hK b o e) (by
    rcases h1 b with z | ⟨z, z2⟩
    · exact z
    · subst z
      rw [h4 (by rw [z2]; exact fun y => nomatch y)] at e
      cases e)
  have mod : Mod K mg (hidT s.heap H) := ⟨kU, nsU hM, ⟨mb, nsU hB, hB2⟩, hL.elim fun mc z => ⟨mc, nsU z.1, z.2⟩⟩
  have env0 : Env0 P w K mg (hidT s.heap H) callerA [] s H := ⟨rfl, mod, fun _ _ z => of_hidT z, Nat.le_of_eq (hidT_size _ _), trivial, fun _ z => (nomatch (show _ ∈ ([] : List Addr) from z)), h3, .of_eq hG⟩
  have run := (F _ kU (nsU hM)).run callerA [] s H ⟨[.ref a], []⟩ [.ref a] [.ref a] (fun v _ => v = .bl true) E0 hr env0 (hD s (.ref a)) (.cons rfl .nil) ⟨a, ns, rfl, h2, hn, fun _ => rfl⟩
  refine codeAny_mono run fun r t h => ?_
  match r, h with
  | .ok (.ret u), ⟨v, H', os, bare, un, ok', rv, (e : v = .bl true)⟩ =>
    subst e
    obtain rfl : u = Value.bool true := rv
    refine ⟨rfl, OldK.of_keep fun b o e => ?_, os, bare⟩
    rcases h1 b with z | ⟨_, z⟩
    · exact un.keep b o e z (fun y => nomatch (show b ∈ ([] : List Addr) from y)) (fun y => nomatch y)
    · obtain ⟨k1, _⟩ := h3 b _ z
      obtain ⟨k2, _⟩ := ok' b _ (un.frzs b _ _ z)
      rw [e] at k1
      cases k1
      exact k2
  | .ok .next, h => exact False.elim h
  | .ok .brk, h => exact False.elim h
  | .ok .cont, h => exact False.elim h
  | .error e, h => exact False.elim h
/-- the goal that k_head leaves -/
theorem walkG {l : PySem.W.OpenLaw} {k : Nat} {q : Program} {loose : List Str} {XP : (Str → Option Value) → Heap → Prop} {YP : World → Heap → Prop} {d : DefRec} {K : Params → PySem.W.Frag} {x : Str} (hn : l.most = some 63) (hd : d.params.defaults = []) (hr : Rm k callerA) (hY : ∀ (w : World) (h : Heap), YP w h → (K w.params).In h)
    (F : ∀ (w : World) (mg : Str → Option Value) (fa : Addr) (h : Heap), (K w.params).In h → h.Ns mainGlobals mg → mg d.name = some (.ref fa) → ∃ fd : FuncData, (∀ (s : Shared) (u : Value), BindsTo s fd ⟨[u], []⟩ [(x, u)]) ∧ ∀ base : Heap, (K w.params).In base → base.Ns mainGlobals mg → FnG l.prog w (K w.params) mg base CX0 k fa fd [x] (spLaw (K w.params))) :
    PySem.W.WalkO q loose XP YP l.row.toRowW d [] (fun f vs => PySem.call f vs) :=
  Att.attach_call hn hd fun w _ s mg _ fa _ _ _ _ a us ns G Y _ _ _ hm hobj hints hlen hg =>
    have hK := hY w _ Y
    let ⟨_, hb, hF⟩ := F w mg fa _ hK G.T.g hm
    law_callG hK G.T.g G.T.b G.T.builtins G.T.nolimit hg hobj hints hlen hr hF hb
end Tr

namespace Tr
open PySem L2

/-! ### the pot that is a list: what its def of draws does -/
def rFd : R2 := rI CDivW fun i j => .int (i / j)
def rMd : R2 := rI (fun _ j => 0 < j) fun i j => .int (i % j)
def rMl : R2 := rI CMul fun i j => .int (i * j)
def rPl : R2 := rI0 fun i j => .int (i + j)
def rInt1 : List V → Hp → VK → Prop := fun xs H Q => (∃ i, xs = [.int i] ∧ Q (.int i) H) ∨ ∃ k, xs = [.bl k] ∧ Q (.int (if k then 1 else 0)) H
def tI1 (t : TE) : TE := tCB rInt1 (tCons t tNil)
def tDg (x : Str) : TE := tDGet (tVar 0) (tC (.str x))
def tOf (K : PySem.W.Frag) : TS := tSeq (tIfS (tTest (tOp (rI0 fun i j => .bl (decide (i < j))) (tVar 1) (tC (.int 2)))) (tRet (tC (.int 0))) tNext)
  (tSeq (tIfS (tTest (tOp (rNeD K) (tDg "great") (tLst tNil)))
    (tSeq (tAsg (tBM0 K "list" rPop (tDg "great")) (gName 2)) (tSeq (tIfS (tTest (tOp (rI0 fun i j => .bl (decide (j ≤ i))) (tVar 2) (tVar 1))) (tDrop (tBM K "list" rAppend (tDg "great") (tCons (tOp rFd (tVar 2) (tVar 1)) tNil))) tNext)
      (tRet (tOp rMd (tI1 (tVar 2)) (tVar 1))))) tNext)
  (tSeq (tAsg (tOp rPl (tDg "turns") (tC (.int 1))) (L2.gSub (tVar 0) (tC (.str "turns")) rSetD))
  (tSeq (tAsg (tOp rMd (tI1 (tOp rPl (tDg "mixed") (tOp rMl (tC (.int 2654435761)) (tDg "turns")))) (tC (.int 4294967279))) (gName 3))
  (tSeq (tAsg (tOp rMd (tI1 (tOp rPl (tOp rPl (tOp rMl (tVar 3) (tVar 3)) (tOp rMl (tC (.int 40692)) (tDg "turns"))) (tC (.int 23)))) (tC (.int 4294967231))) (gName 3))
  (tSeq (tAsg (tOp rMd (tI1 (tOp rPl (tOp rMl (tVar 3) (tVar 3)) (tOp rMl (tDg "mixed") (tC (.int 11))))) (tC (.int 4294967197))) (gName 3))
  (tRet (tOp rMd (tI1 (tOp rFd (tVar 3) (tC (.int 64)))) (tVar 1))))))))
theorem get_ne {σ : L2.St} {i j : Nat} {x : Option V} {y : Option (Option V)} (h : σ[j]? = y) (e : i ≠ j) : (σ.set i x)[j]? = y := by rw [List.getElem?_set_ne e]; exact h
theorem get_eq {σ : L2.St} {i : Nat} {x : Option V} (h : i < σ.length) : (σ.set i x)[i]? = some x := List.getElem?_set_self h
theorem of_plain {D : Ends} {σ : L2.St} {H : Hp} {p : Addr × Addr} {n : Int} (h0 : σ[0]? = some (some (.ref p.1))) (h1 : σ[1]? = some (some (.int n))) (hn : n < 4611686018427387904) (hl : 3 < σ.length) (ok : PotOk H p)
    (q : ∀ (r : Int) (H' : Hp) (σ' : L2.St), Dr n r → (∀ b o, H b = some o → b ≠ p.1 → b ≠ p.2 → H' b = some o) → PotOk H' p → σ'.length = σ.length → D.rt (.int r) H') : tOf K D σ H := by
  obtain ⟨hne, ⟨o, hp, m, k, rfl, hm, hk⟩, cs, hc, hcs, hcl⟩ := ok
  have dg : ∀ {x : Str} {v : V} {σ' : L2.St} {H' : Hp} {m' k' : Int} {Q : VK}, valV (potK p.2 m' k') (.inr x) = some v → σ'[0]? = some (some (.ref p.1)) → H' p.1 = some (.dK (potK p.2 m' k')) → Q v H' → tDg x σ' H' Q :=
    fun a0 a1 a2 a3 => ⟨_, a1, p.1, _, rfl, .inl ⟨_, .inr _, .inl a2, rfl, a0.symm⟩, a3⟩
  have lt3 : 3 < sizeLine := Nat.lt_of_lt_of_le (show 3 < 100 by decide) (by decide)
  refine ⟨_, h1, n, 2, rfl, rfl, _, rfl, ite2 (fun e => ?_) fun e => ?_⟩
  · exact q 0 H σ ⟨by omega, .inr rfl⟩ (fun b o e _ _ => e) ⟨hne, ⟨_, hp, m, k, rfl, hm, hk⟩, cs, hc, hcs, hcl⟩ rfl
  have hn2 : 2 ≤ n := by
    have e' : ¬ decide (n < 2) = true := e
    rw [decide_eq_true_eq] at e'
    omega
  refine dg (v := .ref p.2) rfl h0 hp ⟨Nat.zero_le _, fun t ht => ?_⟩
  have tp1 : p.1 ≠ t := ne_of_none hp ht
  have tp2 : p.2 ≠ t := ne_of_none hc ht
  have hp1 : (upd H t (.lst [])) p.1 = some (.dK (potK p.2 m k)) := by rw [upd_ne tp1]; exact hp
  have hc1 : (upd H t (.lst [])) p.2 = some (.lst (cs.map V.int)) := by rw [upd_ne tp2]; exact hc
  have kp1 : ∀ b o, H b = some o → b ≠ p.1 → b ≠ p.2 → (upd H t (.lst [])) b = some o := fun b o e _ _ => by rw [upd_ne (ne_of_none e ht)]; exact e
  have isI : ∀ l : List Int, DpAll K (upd H t (.lst [])) (l.map V.int) (l.map PyData.int) := fun l => by
    induction l with
    | nil => exact .nil
    | cons x l ih => exact .cons (.int _) ih
  have shp := PySem.W.shaped_ints cs
  refine ⟨.list (cs.map PyData.int), .list [], .lst (SqL.of hc1) (isI cs), .lst (SqL.of upd_same) .nil, shp, rfl, _, rfl, ite2 (fun e1 => ?_) fun e1 => ?_⟩
  · cases hcs' : cs.getLast? with
    | none =>
      rw [List.getLast?_eq_none_iff] at hcs'
      subst hcs'
      exact absurd e1 (by decide)
    | some c0 =>
      have hg : (cs.map V.int)[(cs.map V.int).length - 1]? = some (.int c0) := by
        rw [List.length_map, List.getElem?_map, ← List.getLast?_eq_getElem?, hcs']
        rfl
      have hdl : (cs.map V.int).dropLast = cs.dropLast.map V.int := (List.map_dropLast).symm
      refine dg (v := .ref p.2) rfl h0 hp1 ⟨.inl ⟨rfl, _, SqL.of hc1⟩, p.2, _, _, rfl, rfl, hc1, hg, ?_⟩
      rw [hdl]
      have hp2 : (upd (upd H t (.lst [])) p.2 (.lst (cs.dropLast.map V.int))) p.1 = some (.dK (potK p.2 m k)) := by rw [upd_ne hne]; exact hp1
      have kp2 : ∀ b o, H b = some o → b ≠ p.1 → b ≠ p.2 → (upd (upd H t (.lst [])) p.2 (.lst (cs.dropLast.map V.int))) b = some o := fun b o e x1 x2 => by rw [upd_ne x2]; exact kp1 b o e x1 x2
      have c0n : 0 ≤ c0 := hcs c0 (List.mem_of_getLast? hcs')
      have dl : ∀ c ∈ cs.dropLast, 0 ≤ c := fun c hcc => hcs c (List.dropLast_subset cs hcc)
      have g2 : (σ.set 2 (some (.int c0)))[2]? = some (some (.int c0)) := get_eq (by omega)
      have g1 : (σ.set 2 (some (V.int c0)))[1]? = some (some (.int n)) := get_ne h1 (by decide)
      have g0 : (σ.set 2 (some (V.int c0)))[0]? = some (some (.ref p.1)) := get_ne h0 (by decide)
      have gl : (σ.set 2 (some (V.int c0))).length = σ.length := List.length_set
      have dr : Dr n (c0 % n) := ⟨Int.emod_nonneg _ (by omega), .inl (Int.emod_lt_of_pos _ (by omega))⟩
      refine ⟨_, g2, _, g1, c0, n, rfl, rfl, _, rfl, ite2 (fun e2 => ?_) fun e2 => ?_⟩
      · refine dg (v := .ref p.2) rfl g0 hp2 ⟨.inl ⟨rfl, _, SqL.of upd_same⟩, _, g2, _, g1, c0, n, rfl, rfl, wide_div (b := 62) (by omega) (by omega) (by decide) (by decide), p.2, _, _, rfl, rfl, upd_same, ?_, ?_⟩
        · rw [List.length_map, List.length_dropLast]
          exact Nat.lt_of_lt_of_le (show cs.length - 1 < 100 by omega) (by decide)
        · refine ⟨_, g2, .inl ⟨c0, rfl, _, g1, c0, n, rfl, rfl, by omega, q _ _ _ dr (fun b o e x1 x2 => by rw [upd_ne x2]; exact kp2 b o e x1 x2) ⟨hne, ⟨_, by rw [upd_ne hne]; exact hp2, m, k, rfl, hm, hk⟩, cs.dropLast ++ [c0 / n], by rw [upd_same, List.map_append]; rfl, fun c hcc => ?_, ?_⟩ gl⟩⟩
          · rcases List.mem_append.mp hcc with z | z
            · exact dl c z
            · rw [List.mem_singleton.mp z]
              exact Int.ediv_nonneg c0n (by omega)
          · cases cs with
            | nil => cases hcs'
            | cons x l => rw [List.length_append, List.length_dropLast]; exact hcl
      · exact ⟨_, g2, .inl ⟨c0, rfl, _, g1, c0, n, rfl, rfl, by omega, q _ _ _ dr kp2 ⟨hne, ⟨_, hp2, m, k, rfl, hm, hk⟩, cs.dropLast, upd_same, dl, by rw [List.length_dropLast]; omega⟩ gl⟩⟩
  · have e9 : ∀ (a b x : Int), putK (potK p.2 a b) (.inr "turns") (.int x) = potK p.2 a x := fun _ _ _ => rfl
    refine dg (v := .int k) rfl h0 hp1 ⟨k, 1, rfl, rfl, _, h0, p.1, _, rfl, .inl ⟨_, .inr "turns", hp1, rfl, lt3, rfl⟩, ?_⟩
    rw [e9]
    have hp2 : (upd (upd H t (.lst [])) p.1 (.dK (potK p.2 m (k + 1)))) p.1 = some (.dK (potK p.2 m (k + 1))) := upd_same
    have kp2 : ∀ b o, H b = some o → b ≠ p.1 → b ≠ p.2 → (upd (upd H t (.lst [])) p.1 (.dK (potK p.2 m (k + 1)))) b = some o := fun b o e x1 x2 => by rw [upd_ne x1]; exact kp1 b o e x1 x2
    have hc2 : (upd (upd H t (.lst [])) p.1 (.dK (potK p.2 m (k + 1)))) p.2 = some (.lst (cs.map V.int)) := by rw [upd_ne hne.symm]; exact hc1
    show tSeq _ _ D σ (upd (upd H t (.lst [])) p.1 (.dK (potK p.2 m (k + 1))))
    revert hp2 kp2 hc2
    generalize upd (upd H t (.lst [])) p.1 (.dK (potK p.2 m (k + 1))) = H2
    intro hp2 kp2 hc2
    have bnd : ∀ x y : Int, 0 < y → y ≤ 4294967296 → 0 ≤ x % y ∧ x % y < 2 ^ 64 := fun x y a b => ⟨Int.emod_nonneg _ (by omega), by have := Int.emod_lt_of_pos x a; omega⟩
    have pos : ∀ y : Int, 1 ≤ y → 0 < y := fun y h => by omega
    refine dg (v := .int m) rfl h0 hp2 (dg (v := .int (k + 1)) rfl h0 hp2 ⟨2654435761, k + 1, rfl, rfl, .inl ⟨by decide, by decide⟩, m, _, rfl, rfl, .inl ⟨_, rfl, _, 4294967279, rfl, rfl, pos 4294967279 (by decide), ?_⟩⟩)
    show tSeq _ _ D (σ.set 3 (some (V.int ((m + 2654435761 * (k + 1)) % 4294967279)))) H2
    have b1 := bnd (m + 2654435761 * (k + 1)) 4294967279 (by decide) (by decide)
    revert b1
    generalize (m + 2654435761 * (k + 1)) % 4294967279 = x1
    intro b1
    have t3 : (σ.set 3 (some (V.int x1)))[3]? = some (some (.int x1)) := get_eq (by omega)
    have t0 : (σ.set 3 (some (V.int x1)))[0]? = some (some (.ref p.1)) := get_ne h0 (by decide)
    refine ⟨_, t3, _, t3, x1, x1, rfl, rfl, .inl ⟨by omega, b1.2⟩, dg (v := .int (k + 1)) rfl t0 hp2 ⟨40692, k + 1, rfl, rfl, .inl ⟨by decide, by decide⟩, _, _, rfl, rfl, _, 23, rfl, rfl, .inl ⟨_, rfl, _, 4294967231, rfl, rfl, pos 4294967231 (by decide), ?_⟩⟩⟩
    show tSeq _ _ D ((σ.set 3 (some (V.int x1))).set 3 (some (V.int ((x1 * x1 + 40692 * (k + 1) + 23) % 4294967231)))) H2
    have b2 := bnd (x1 * x1 + 40692 * (k + 1) + 23) 4294967231 (by decide) (by decide)
    revert b2
    generalize (x1 * x1 + 40692 * (k + 1) + 23) % 4294967231 = x2
    intro b2
    rw [List.set_set]
    have u3 : (σ.set 3 (some (V.int x2)))[3]? = some (some (.int x2)) := get_eq (by omega)
    have u0 : (σ.set 3 (some (V.int x2)))[0]? = some (some (.ref p.1)) := get_ne h0 (by decide)
    refine ⟨_, u3, _, u3, x2, x2, rfl, rfl, .inl ⟨by omega, b2.2⟩, dg (v := .int m) rfl u0 hp2 ⟨m, 11, rfl, rfl, .inr ⟨by decide, by decide⟩, _, _, rfl, rfl, .inl ⟨_, rfl, _, 4294967197, rfl, rfl, pos 4294967197 (by decide), ?_⟩⟩⟩
    show tSeq _ _ D ((σ.set 3 (some (V.int x2))).set 3 (some (V.int ((x2 * x2 + m * 11) % 4294967197)))) H2
    generalize (x2 * x2 + m * 11) % 4294967197 = x3
    rw [List.set_set]
    have v3 : (σ.set 3 (some (V.int x3)))[3]? = some (some (.int x3)) := get_eq (by omega)
    have v1 : (σ.set 3 (some (V.int x3)))[1]? = some (some (.int n)) := get_ne h1 (by decide)
    refine ⟨_, v3, x3, 64, rfl, rfl, ⟨by decide, by decide⟩, .inl ⟨_, rfl, _, v1, _, n, rfl, rfl, by omega, ?_⟩⟩
    exact q _ _ (σ.set 3 (some (V.int x3))) ⟨Int.emod_nonneg _ (by omega), .inl (Int.emod_lt_of_pos _ (by omega))⟩ kp2 ⟨hne, ⟨_, hp2, m, k + 1, rfl, hm, by omega⟩, cs, hc2, hcs, hcl⟩ List.length_set
/-! ### the deck's maker -/
def rAbs1 : List V → Hp → VK → Prop := fun xs H Q => ∃ i, xs = [.int i] ∧ Q (.int (if i < 0 then -i else i)) H
def tDg1 (x : Str) : TE := tDGet (tVar 1) (tC (.str x))
def tDkB (K : PySem.W.Frag) : TS := tSeq (tAsg (tOp rPl (tOp rMl (tC (.int 2)) (tCB rAbs1 (tCons (tVar 2) tNil))) (tI1 (tOp (rI0 fun i j => .bl (decide (i < j))) (tVar 2) (tC (.int 0))))) (gName 3))
  (tSeq (tIfS (tTest (tOp (rI0 fun i j => .bl (decide (j ≤ i))) (tVar 3) (tOp (rI CPow fun i j => .int (i ^ j.toNat)) (tC (.int 10)) (tC (.int 16))))) (tDrop (tBM K "list" rAppend (tDg1 "great") (tCons (tVar 3) tNil))) tNext)
    (tAsg (tOp rMd (tI1 (tOp rPl (tOp rPl (tOp rMl (tDg1 "mixed") (tC (.int 69621))) (tVar 3)) (tC (.int 29)))) (tC (.int 4294967291))) (L2.gSub (tVar 1) (tC (.str "mixed")) rSetD)))
def tDk (K : PySem.W.Frag) : TS := tSeq (tFor (iSeq K (tSl (rSlL K) (tVar 0) tNoPart (tPart (tC (.int 63))))) (gName 2) (tDkB K)) (tRet (tVar 1))
theorem deck_turn {D : Ends} {σ : L2.St} {H : Hp} {p q : Addr} {m k : Int} {cs : List Int} (h1 : σ[1]? = some (some (.ref p))) (h2 : σ[2]? = some (some (.int k))) (hl : 3 < σ.length) (hne : p ≠ q) (hp : H p = some (.dK (potK q m 0))) (hq : H q = some (.lst (cs.map V.int))) (hm : 0 ≤ m) (hcs : ∀ c ∈ cs, 0 ≤ c) (hcl : cs.length ≤ 63)
    (N : ∀ (m' : Int) (cs' : List Int) (σ' : L2.St) (H' : Hp), σ'[1]? = some (some (.ref p)) → σ'.length = σ.length → (∀ b, b ≠ p → b ≠ q → H' b = H b) → H' p = some (.dK (potK q m' 0)) → H' q = some (.lst (cs'.map V.int)) → 0 ≤ m' → (∀ c ∈ cs', 0 ≤ c) → cs'.length ≤ cs.length + 1 → D.nx σ' H') : tDkB K D σ H := by
  have dg : ∀ {x : Str} {v : V} {σ' : L2.St} {H' : Hp} {m' k' : Int} {Q : VK}, valV (potK q m' k') (.inr x) = some v → σ'[1]? = some (some (.ref p)) → H' p = some (.dK (potK q m' k')) → Q v H' → tDg1 x σ' H' Q :=
    fun a0 a1 a2 a3 => ⟨_, a1, p, _, rfl, .inl ⟨_, .inr _, .inl a2, rfl, a0.symm⟩, a3⟩
  have lt3 : 3 < sizeLine := Nat.lt_of_lt_of_le (show 3 < 100 by decide) (by decide)
  have pos : ∀ y : Int, 1 ≤ y → 0 < y := fun y h => by omega
  refine ⟨_, h2, k, rfl, 2, _, rfl, rfl, .inl ⟨by decide, by decide⟩, _, h2, k, 0, rfl, rfl, .inr ⟨_, rfl, _, _, rfl, rfl, ?_⟩⟩
  show tSeq _ _ D (σ.set 3 (some (V.int (2 * (if k < 0 then -k else k) + (if decide (k < 0) = true then 1 else 0))))) H
  have o0 : 0 ≤ 2 * (if k < 0 then -k else k) + (if decide (k < 0) = true then 1 else 0) := by split <;> split <;> omega
  revert o0
  generalize 2 * (if k < 0 then -k else k) + (if decide (k < 0) = true then 1 else 0) = o
  intro o0
  have s3 : (σ.set 3 (some (V.int o)))[3]? = some (some (.int o)) := get_eq (by omega)
  have s1 : (σ.set 3 (some (V.int o)))[1]? = some (some (.ref p)) := get_ne h1 (by decide)
  have sl : (σ.set 3 (some (V.int o))).length = σ.length := List.length_set
  revert s3 s1 sl
  generalize σ.set 3 (some (V.int o)) = τ
  intro s3 s1 sl
  have mix : ∀ (H2 : Hp) (cs' : List Int), (∀ b, b ≠ p → b ≠ q → H2 b = H b) → H2 p = some (.dK (potK q m 0)) → H2 q = some (.lst (cs'.map V.int)) → (∀ c ∈ cs', 0 ≤ c) → cs'.length ≤ cs.length + 1 →
      tAsg (tOp rMd (tI1 (tOp rPl (tOp rPl (tOp rMl (tDg1 "mixed") (tC (.int 69621))) (tVar 3)) (tC (.int 29)))) (tC (.int 4294967291))) (L2.gSub (tVar 1) (tC (.str "mixed")) rSetD) D τ H2 := fun H2 cs' k2 hp2 hq2 hcs2 hcl2 => by
    have e8 : ∀ (a b x : Int), putK (potK q a b) (.inr "mixed") (.int x) = potK q x b := fun _ _ _ => rfl
    refine dg (v := .int m) rfl s1 hp2 ⟨m, 69621, rfl, rfl, .inr ⟨by decide, by decide⟩, _, s3, _, _, rfl, rfl, _, 29, rfl, rfl, .inl ⟨_, rfl, _, 4294967291, rfl, rfl, pos 4294967291 (by decide), _, s1, p, _, rfl, .inl ⟨_, .inr "mixed", hp2, rfl, lt3, rfl⟩, ?_⟩⟩
    rw [e8]
    exact N _ cs' τ _ s1 sl (fun b b1 b2 => by rw [upd_ne b1]; exact k2 b b1 b2) upd_same (by rw [upd_ne hne.symm]; exact hq2) (Int.emod_nonneg _ (by decide)) hcs2 hcl2
  refine ⟨_, s3, 10, 16, rfl, rfl, ⟨by decide, by decide, by decide⟩, o, _, rfl, rfl, _, rfl, ite2 (fun e2 => ?_) fun e2 => ?_⟩
  · refine dg (v := .ref q) rfl s1 hp ⟨.inl ⟨rfl, _, SqL.of hq⟩, _, s3, q, _, _, rfl, rfl, hq, ?_, ?_⟩
    · rw [List.length_map]
      exact Nat.lt_of_lt_of_le (show cs.length < 100 by omega) (by decide)
    · refine mix _ (cs ++ [o]) (fun b _ b2 => upd_ne b2) (by rw [upd_ne hne]; exact hp) (by rw [upd_same, List.map_append]; rfl) (fun c hc => ?_) (by rw [List.length_append]; exact Nat.le_refl _)
      rcases List.mem_append.mp hc with z | z
      · exact hcs c z
      · rw [List.mem_singleton.mp z]
        exact o0
  · exact mix H cs (fun b _ _ => rfl) hp hq hcs (Nat.le_succ _)
theorem SqL.kept {H H' : Hp} {a : Addr} {xs : List V} (h : SqL K H a xs) (k : ∀ o, H a = some o → H' a = some o) : SqL K H' a xs := by
  rcases h with (h | ⟨o, h⟩) | h
  · exact .inl (.inl (k _ h))
  · exact .inl (.inr ⟨o, k _ h⟩)
  · exact .inr h
theorem deck_plain {D : Ends} {σ : L2.St} {H : Hp} {a p q : Addr} {m : Int} {ns : List Int} (h0 : σ[0]? = some (some (.ref a))) (h1 : σ[1]? = some (some (.ref p))) (hl : 3 < σ.length) (hS : SqL K H a (ns.map V.int)) (hn : ns.length ≤ 63) (hne : p ≠ q) (hp : H p = some (.dK (potK q m 0))) (hq : H q = some (.lst [])) (hm : 0 ≤ m)
    (N : ∀ H', PotOk H' (p, q) → D.rt (.ref p) H') : tDk K D σ H := by
  obtain ⟨ks, hks, hkl⟩ : ∃ ks : List Int, cutV (ns.map V.int) none (some 63) = ks.map V.int ∧ ks.length ≤ 63 := by
    refine ⟨(ns.drop (HT.sIx ns.length 0 none)).take (HT.sIx ns.length ns.length (some 63) - HT.sIx ns.length 0 none), ?_, ?_⟩
    · unfold cutV
      rw [List.length_map, ← List.map_drop, ← List.map_take]
    · rw [List.length_take, List.length_drop]
      omega
  refine ⟨_, h0, 63, rfl, a, _, rfl, hS, fun t ht => ?_⟩
  rw [hks]
  have tp : p ≠ t := ne_of_none hp ht
  have tq : q ≠ t := ne_of_none hq ht
  refine ⟨t, rfl, .inl ⟨⟨_, SqL.of upd_same⟩, ?_⟩⟩
  have hW := wk_list (K := K) (G := fun b => if b = t then some (.lst (ks.map V.int)) else none) (a := t) (if_pos rfl) (RpAll.ints ks)
  have same : ∀ {H' : Hp}, H' t = some (.lst (ks.map V.int)) → Same (fun b => if b = t then some (HO.lst (ks.map V.int)) else none) H' := fun {H'} e b o h => by
    have h : (if b = t then some (HO.lst (ks.map V.int)) else none) = some o := h
    by_cases z : b = t
    · subst z
      rw [if_pos rfl] at h
      rw [e]
      exact h
    · rw [if_neg z] at h
      cases h
  refine ⟨fun i mm σ' H' => mm = ks.length - i ∧ i ≤ ks.length ∧ σ'.length = σ.length ∧ σ'[1]? = some (some (.ref p)) ∧ H' t = some (.lst (ks.map V.int)) ∧ ∃ (m' : Int) (cs : List Int), H' p = some (.dK (potK q m' 0)) ∧ H' q = some (.lst (cs.map V.int)) ∧ 0 ≤ m' ∧ (∀ c ∈ cs, 0 ≤ c) ∧ cs.length ≤ i,
    ⟨_, rfl, Nat.zero_le _, rfl, h1, upd_same, m, [], by rw [upd_ne tp]; exact hp, by rw [upd_ne tq]; exact hq, hm, fun c hc => absurd hc List.not_mem_nil, Nat.le_refl _⟩, ?_⟩
  rintro i mm σ' H' ⟨rfl, hil, e1, e2, e3, m', cs, f1, f2, f3, f4, f5⟩
  have hW2 := hW _ H' (Same.refl _) (same e3) i
  by_cases hlt : i < ks.length
  · have hk : ks[i]? = some ks[i] := List.getElem?_eq_getElem hlt
    have hd : (ks.map PyData.int)[i]? = some (.int ks[i]) := by rw [List.getElem?_map, hk]; rfl
    refine .inr ⟨(hW2.1 _ hd).1, fun σ3 H3 => i + 1 ≤ ks.length ∧ σ3.length = σ.length ∧ σ3[1]? = some (some (.ref p)) ∧ H3 t = some (.lst (ks.map V.int)) ∧ ∃ (m' : Int) (cs : List Int), H3 p = some (.dK (potK q m' 0)) ∧ H3 q = some (.lst (cs.map V.int)) ∧ 0 ≤ m' ∧ (∀ c ∈ cs, 0 ≤ c) ∧ cs.length ≤ i + 1, fun σ3 H3 h3 => ⟨ks.length - (i + 1), by omega, rfl, h3⟩, fun x H4 hy => ?_⟩
    rcases (hW2.1 _ hd).2 x H4 hy with ⟨rfl, hr⟩ | ⟨z, _⟩
    · cases hr
      refine deck_turn (p := p) (q := q) (m := m') (cs := cs) (k := ks[i]) (get_ne e2 (by decide)) (get_eq (by omega)) (by rw [List.length_set]; omega) hne f1 f2 f3 f4 (by omega) fun m2 cs2 σ5 H5 g1 g2 g3 g4 g5 g6 g7 g8 => ⟨hlt, by rw [g2, List.length_set, e1], g1, by rw [g3 t tp.symm tq.symm]; exact e3, m2, cs2, g4, g5, g6, g7, by omega⟩
    · cases z
  · have e : ks.length = i := by omega
    exact .inl ⟨hW2.2 (by rw [List.length_map]; exact e), _, e2, N H' ⟨hne, ⟨_, f1, m', 0, rfl, f3, Int.le_refl _⟩, cs, f2, f4, by omega⟩⟩
def spDeck (K : PySem.W.Frag) : Sp := fun vs H Q _ => ∃ (a : Addr) (ns : List Int), vs = [.ref a] ∧ SqL K H a (ns.map V.int) ∧ ns.length ≤ 63 ∧ ∀ p H', PotOk H' p → Q (.ref p.1) H'
section
variable {P : Program} {w : World} {mg : Str → Option Value} {base : Heap} {k i : Nat} {N : List Str} {sm st0 : Stmt} {rest : List Stmt} {f : Addr} {fd : FuncData} {w0 w1 : WS}
/-- the maker's def -/
theorem deck_fn (F : Fun K "_law_deck" "_law_deck" sm f fd) (S : FnScope N ["script"] (defScope sm)) (hN : N.length = 4) (hb : defBody sm = st0 :: rest)
    (h0 : ∀ (f : Addr) (cdv : Value) (A : Around) (outer : List Env) (s : Shared) (H : Hp) (E : XK), Rm k (A.deeper (PyProof.Rows.envOfC "_law_deck" (defScope sm) s.heap.objs.size f cdv)) → DS (cxD P w K mg base N "_law_deck" sm f cdv A outer s H E) ⟨K, mg, none, fun _ => none, E⟩ st0 w0)
    (h1 : ∀ (f : Addr) (cdv : Value) (A : Around) (outer : List Env) (s : Shared) (H : Hp) (E : XK), Rm k (A.deeper (PyProof.Rows.envOfC "_law_deck" (defScope sm) s.heap.objs.size f cdv)) → PSs (cxD P w K mg base N "_law_deck" sm f cdv A outer s H E) rest (tDk K))
    (m0 : ∀ ns : List Int, ns.length ≤ 63 → w0 ⟨fun ρ => ρ.length = 4 ∧ ρ[0]? = some (.im (scrD ns)) ∧ ∃ m : Int, 0 ≤ m ∧ ρ[1]? = some (.own false (.d [(.inr "great", .list []), (.inr "mixed", .int m), (.inr "turns", .int 0)])), fun _ _ => False, fun _ => False, fun _ => False, fun _ => False⟩ (.im (scrD ns) :: List.replicate 3 .no)) :
    FnG P w K mg base CX0 (k + 1) f fd ["script"] (spDeck K) := by
  refine FnG.of_body F S (fun vs H Q E q => ?_) fun cdv A outer s H vs Q E hr q => ?_
  · obtain ⟨a, ns, rfl, _⟩ := q
    rfl
  obtain ⟨a, ns, rfl, hS, hl, hQ⟩ := q
  rw [hb]
  refine ⟨_, pss_cons (h0 f cdv A outer s H E hr) (h1 f cdv A outer s H E hr), ?_⟩
  have rl0 : Rel K none (fun _ => none) H H [] [] := ⟨fun _ _ e => e, rfl, fun i s e => (by simp at e), fun i j l l' ds ds' a e _ _ _ => (by simp at e), fun p e => (by cases e), fun b ⟨i, l, ds, e, _⟩ => (by simp at e)⟩
  have hh : Handed K none H [V.ref a] [Sl.im (scrD ns)] := .im (.scr hS) .nil
  obtain ⟨rl, _⟩ := rel_start (N := N) rl0 hh (show 1 ≤ N.length by omega) fun _ => none
  rw [hN] at rl
  refine ⟨H, _, _, rl, m0 ns hl, fun σ' ρ' G' H' n ⟨elen, e0, m, hm, e1⟩ => ?_, fun _ _ _ _ _ _ _ _ _ z => z.elim, fun _ _ _ _ _ z => z.elim, fun _ _ _ _ _ z => z.elim, fun _ _ _ _ _ _ _ _ _ z => z.elim⟩
  obtain ⟨ov, z1, b, ho, rfl, z3, z4, z5, _⟩ := n.r.sl 1 _ e1
  obtain ⟨ov0, y1, v, rfl, hv⟩ := n.r.sl 0 _ e0
  obtain ⟨ws, rfl, z6⟩ : ∃ ws, ho = .dK ws ∧ RpKV K G' ws [(.inr "great", .list (([] : List Int).map PyData.int)), (.inr "mixed", .int m), (.inr "turns", .int 0)] := by
    cases z5 with
    | d z5 => exact ⟨_, rfl, z5⟩
  obtain ⟨b2, rfl, g2⟩ := rp_two z6
  obtain ⟨a2, rfl, hS2⟩ := vw_scr (c := ⟨K, mg, none, fun _ => none, E⟩) n.r (r := .im (scrD ns)) hv rfl (intsOf_ints ns)
  have hlen : σ'.length = 4 := n.r.len.symm.trans elen
  exact deck_plain y1 z1 (by omega) hS2 hl (fun z => (by subst z; rw [z3] at g2; cases g2)) z4 (n.r.ext _ _ g2) hm fun H2 ok => hQ (b, b2) H2 ok
/-- the law's def: its first statement takes the deck from the maker -/
theorem law_fnD (F : Fun K "law" "law" sm f fd) (S : FnScope N ["script"] (defScope sm)) (hi : i < N.length) (hN : 1 ≤ N.length) (hb : defBody sm = st0 :: rest)
    (h0 : ∀ (f : Addr) (cdv : Value) (A : Around) (outer : List Env) (s : Shared) (H : Hp) (E : XK), Rm k (A.deeper (PyProof.Rows.envOfC "law" (defScope sm) s.heap.objs.size f cdv)) → PS (cxD P w K mg base N "law" sm f cdv A outer s H E) st0 (tAsg (tCall (spDeck K) [] E0 (tCons (tVar 0) tNil)) (gName i)))
    (h1 : ∀ (f : Addr) (cdv : Value) (A : Around) (outer : List Env) (s : Shared) (H : Hp) (E : XK) (p : Addr × Addr), Rm k (A.deeper (PyProof.Rows.envOfC "law" (defScope sm) s.heap.objs.size f cdv)) → DSs (cxD P w K mg base N "law" sm f cdv A outer s H E) ⟨K, mg, some p, fun _ => none, E⟩ rest w1)
    (m1 : w1 lawP (potEnv N.length i)) : FnG P w K mg base CX0 (k + 1) f fd ["script"] (spLaw K) := by
  refine FnG.of_body F S (fun vs H Q E q => ?_) fun cdv A outer s H vs Q E hr q => ?_
  · obtain ⟨a, ns, rfl, _⟩ := q
    rfl
  obtain ⟨a, ns, rfl, hS, hl, hQ⟩ := q
  rw [hb]
  refine ⟨_, pss_cons (h0 f cdv A outer s H E hr) (⟨fun pins s' σ H' D I ⟨p, q⟩ => (h1 f cdv A outer s H E p hr).run pins s' σ H' D I q⟩ : PSs _ rest fun D σ H' => ∃ p, LS ⟨K, mg, some p, fun _ => none, E⟩ w1 D σ H'), ?_⟩
  have hs0 : (L2.start N [V.ref a])[0]? = some (some (V.ref a)) := by
    cases N with
    | nil => cases hi
    | cons x l => rfl
  have hsl : (L2.start N [V.ref a]).length = N.length := by
    show ([some (V.ref a)] ++ List.replicate (N.length - 1) none).length = _
    rw [List.length_append, List.length_replicate]
    show 1 + (N.length - 1) = _
    omega
  refine ⟨_, hs0, a, ns, rfl, hS, hl, fun p H' ok => ?_⟩
  refine ⟨p, fun _ => none, _, lawP, rel_pot (n := N.length) (i := i) ok (by rw [List.length_set]; exact hsl) (List.getElem?_set_self (by rw [hsl]; exact hi)), m1, fun _ _ _ _ _ z => z.elim, fun v r σ1 ρ1 G1 H1 n1 rr _ e => ?_, fun _ _ _ _ _ z => z.elim, fun _ _ _ _ _ z => z.elim, fun _ _ _ _ _ _ _ _ _ z => z.elim⟩
  subst e
  cases (show Rp K G1 v (.bool true) from rr)
  exact hQ H1
end
/-! ### what the top has written -/
theorem blk_id {N : List Str} {sc scope : Scope} {own : List (Str × Nat)} (h : blkC N sc scope own = true) : blkC N sc scope own = true := h
theorem df_mk {K : PySem.W.Frag} {h : Heap} {mg : Str → Option Value} {x : Str} {st : Stmt} {f : Addr} {oc : Value} {od an : Option Addr} {osl : Array (Option Value)} {kV doc pm cdv ct : Value} (ps : List Str) (hK : K.In h) (hG : h.Ns mainGlobals mg) (hp : ps ≠ [])
    (hb : ∀ (kV doc pm : Value) (an : Option Addr) (cdv ct : Value) (us : List Value), us.length = ps.length → bindArgs (PySem.W.fnOf x x (defArgs st) (defBody st) (defScope st) .none kV doc pm an cdv ct) ⟨us, []⟩ = pure (ps.zip us))
    (hk : ∀ (kV doc pm : Value) (an : Option Addr) (cdv ct : Value) (us : List Value), us.length = ps.length → bindArgs (PySem.W.fnOf x x (defArgs st) (defBody st) (defScope st) .none kV doc pm an cdv ct) ⟨[], ps.reverse.zip us⟩ = pure (ps.zip us.reverse))
    (a : PySem.W.nsIn K mainGlobals x = some (some (.ref f))) (l : K.lookup f = some ⟨oc, od, .func (PySem.W.fnOf x x (defArgs st) (defBody st) (defScope st) .none kV doc pm an cdv ct), osl⟩) (c : PySem.W.codeIn K cdv x = true) (k : PySem.W.keepIn K (.ref f) = true) : Df K mg x st ps :=
  have F := fun_mk (st := st) l c k
  ⟨f, _, F, PySem.W.mg_of hK hG a, F.binds hb, kbinds_of (fun ws hl => hk kV doc pm an cdv ct ws hl) hp⟩
end Tr

namespace Tr
open PySem L2

/-! ### methods of tuples that are told -/
section
variable {X : Cx} {c : Ct} {o e : Expr} {es : List Expr} {to : TE} {t : TA} {name : Str} {apos cpos : Pos} {T id : String} {r : V → List V → Hp → VK → Prop}
/-- a value of that type, no dict of its own -/
def TyOk (X : Cx) (T : String) (x : V) (H : Hp) : Prop := ∀ pins σ s v, Inv X pins σ H s → RelV x v → s.TypeIs v T ∧ ∀ a, v = .ref a → ∃ ob, s.heap.get? a = some ob ∧ ob.dict = none
theorem TyOk.of_tup {K : PySem.W.Frag} {H : Hp} {a : Addr} {xs : List V} (hK : X.K = K) (h : TupK K H a xs) : TyOk X "tuple" (.ref a) H := by
  subst hK
  intro pins σ s v I rv
  obtain rfl : v = Value.ref a := rv
  rcases h with ⟨ob, hd, e⟩ | ⟨ob, its, n, h1, h2, h3, _⟩
  · obtain ⟨g, hz, vs, _, hi⟩ := I.hok a _ e
    obtain ⟨ob2, g2, hc, _⟩ := hi
    have e2 : ob = ob2 := Option.some.inj (g.symm.trans g2)
    subst e2
    exact ⟨⟨ob, g, hc⟩, fun b eb => by cases eb; exact ⟨ob, g, hd⟩⟩
  · have g := I.kIn a ob h1
    exact ⟨⟨ob, g, h2⟩, fun b eb => by cases eb; exact ⟨ob, g, h3⟩⟩
/-- o.m(e): the receiver is of one of two types -/
theorem pe_bmY {T' id' : String} {r' : V → List V → Hp → VK → Prop} (pa : PlainAttrs T) (slot : Slot T name id) (hty : typeOf (.builtin id) = pure (.type "method_descriptor")) (hm : MtR X id r) (pa' : PlainAttrs T') (slot' : Slot T' name id') (hty' : typeOf (.builtin id') = pure (.type "method_descriptor")) (hm' : MtR X id' r')
    (ho : PE X o to) (ha : PA X [e] t) (hbase : attributeBase o name X.env (eval o X.env) = eval o X.env)
    (hfew : ((backTo cpos (starEach [e] X.env)).all (fun x => !x.1) && (backToKw cpos (keywordEach [] X.env)).all (fun x => x.1.isSome) && decide ([e].length + ([] : List Keyword).length + (if ([] : List Keyword).isEmpty then 0 else 1) < 30)) = true)
    (hline : (apos.endLine == cpos.line) = true) (hs : starEach [e] X.env = (false, eval e X.env) :: starEach [] X.env) (hpl : (backTo cpos (starEach [] X.env)).any (·.1) = false) :
    PE X (.Call (.Attribute o name apos) [e] [] cpos) (fun σ H Q => to σ H fun x H1 => (TyOk X T x H1 ∧ t σ H1 fun xs H2 => r x xs H2 Q) ∨ (TyOk X T' x H1 ∧ t σ H1 fun xs H2 => r' x xs H2 Q)) := by
  refine ⟨fun pins s σ H Q I h => wpAny_Call_method_late hbase hfew hline rfl (thn (ho.run pins s σ H _ I h) fun v s1 ⟨x, H1, I1, r1, q1⟩ => ?_)⟩
  have fin : ∀ {T0 id0 : String} {r0 : V → List V → Hp → VK → Prop}, PlainAttrs T0 → Slot T0 name id0 → typeOf (.builtin id0) = pure (.type "method_descriptor") → MtR X id0 r0 → TyOk X T0 x H1 → (t σ H1 fun xs H2 => r0 x xs H2 Q) →
      ∃ (T1 : String) (id1 : String), PlainAttrs T1 ∧ Slot T1 name id1 ∧ typeOf (.builtin id1) = pure (.type "method_descriptor") ∧ s1.TypeIs v T1 ∧ (∀ a, v = .ref a → ∃ ob, s1.heap.get? a = some ob ∧ ob.dict = none) ∧
        wpAny (model X.prog X.w) X.A (callWith cpos (.builtin id1) [v] (backTo cpos (starEach [e] X.env)) (backToKw cpos (keywordEach [] X.env))) (EP X pins σ Q) X.xe s1 := fun {T0 id0 r0} p0 sl0 ty0 hm0 tk0 q0 => by
    have hA := ha.run cpos pins s1 σ H1 _ I1 q0
    rw [hs] at hA ⊢
    exact ⟨T0, id0, p0, sl0, ty0, (tk0 _ _ _ _ I1 r1).1, (tk0 _ _ _ _ I1 r1).2, Calls.callWith_builtin (by show (false || (backTo cpos (starEach [] X.env)).any (·.1)) = false; rw [hpl] <;> rfl)
      (Calls.evalArgs_plain (thn hA fun us s2 ⟨vs, H2, I2, r2, q2⟩ => hm0 pins s2 σ H2 x vs v us Q I2 r1 r2 q2))⟩
  rcases q1 with ⟨ty, q1⟩ | ⟨ty, q1⟩
  · exact fin pa slot hty hm ty q1
  · exact fin pa' slot' hty' hm' ty q1
theorem TyOk.of_lst {H : Hp} {a : Addr} {xs : List V} (h : SqL X.K H a xs) : TyOk X "list" (.ref a) H := fun pins σ s v I rv => by
  obtain rfl : v = Value.ref a := rv
  exact tyV_is (x := V.ref a) I rfl (Or.inl ⟨rfl, xs, h⟩)
end
end Tr
namespace Tr
open PySem L2
/-- the first place of an equal item -/
def firstAt (ds : List D) (e : D) : Option Nat := ds.findIdx? fun z => PyData.eqv z e
theorem firstAt_get {ds : List D} {e : D} {j : Nat} (h : firstAt ds e = some j) : ∃ z, ds[j]? = some z ∧ PyData.eqv z e = true ∧ ∀ (m : Nat) (z' : D), m < j → ds[m]? = some z' → PyData.eqv z' e = false := by
  obtain ⟨hj, h1, h2⟩ := List.findIdx?_eq_some_iff_getElem.mp h
  refine ⟨ds[j], List.getElem?_eq_getElem hj, h1, fun m z' hm hz => ?_⟩
  obtain ⟨hml, hz⟩ := List.getElem?_eq_some_iff.mp hz
  have := h2 m hm
  rw [hz] at this
  simpa using this
section
variable {X : Cx} {c : Ct} {o e a b : Expr} {apos cpos : Pos} {wo wa : WE} {k : Nat}
def rIndexTD (K : PySem.W.Frag) : V → List V → Hp → VK → Prop := fun x xs H Q => ∃ (p : Addr) (y : V) (d : PyData) (ds : List PyData) (j : Nat) (z : PyData), x = V.ref p ∧ xs = [y] ∧ Dp K H (V.ref p) (.tuple ds) ∧ Dp K H y d ∧
  SeqAt.shaped (.tuple ds) = true ∧ SeqAt.shaped d = true ∧ ds[j]? = some z ∧ PyData.eqv z d = true ∧ (∀ (m : Nat) (z' : PyData), m < j → ds[m]? = some z' → PyData.eqv z' d = false) ∧ Q (.int (j : Nat)) H
theorem mt_indexTD (hu : X.A.units + 65 < cLine) : MtR X "tuple.index" (rIndexTD X.K) := by
  intro pins s σ H x xs v us Q I rx rxs h
  obtain ⟨p, y, d, ds, j, z, rfl, rfl, hl, hy, sl, sd, hz, hzj, hno, q⟩ := h
  obtain rfl : v = Value.ref p := rx
  obtain ⟨uy, rfl, ry⟩ := vals1 rxs
  obtain ⟨bs, r1⟩ := Dp.reads I d y uy hy ry
  have cls : PyData.canLayAll0 ds = true := by simpa only [PyData.canLay0] using SeqAt.canLay_of_shaped sl
  have room : X.A.units + 1 + min (PyData.depthAll ds) d.depth < cLine := by
    have h1 := SeqAt.depth_of_shaped sd
    have h2 : min (PyData.depthAll ds) d.depth ≤ d.depth := Nat.min_le_right _ _
    omega
  cases hl with
  | tup hs hall =>
    obtain ⟨its, rv, ⟨⟨cl, dd, dt, sls⟩, ho, hc, n, hd⟩, _⟩ := I.tuple hs
    obtain rfl : cl = Value.type "tuple" := hc
    obtain rfl : dt = Data.seq its.toArray n := hd
    obtain ⟨as, rd⟩ := Dp.readsAll I ds _ its hall rv
    have hmap : its.map (SeqAt.readOf s.heap) = ds := SeqAt.readsAll_map ds its as cls rd
    have at_ : ∀ (m : Nat) (hm : m < its.toArray.size), ds[m]? = some (SeqAt.readOf s.heap its.toArray[m]) := fun m hm => by
      have hml : m < its.length := by simpa using hm
      rw [← hmap, List.getElem?_map, List.getElem?_eq_getElem hml]
      simp
    have hsz : its.toArray.size = ds.length := by rw [← hmap, List.length_map, List.size_toArray]
    have hj : j < its.toArray.size := by rw [hsz]; exact (List.getElem?_eq_some_iff.mp hz).1
    refine call_meets PySem.F.slot_tuple_index ⟨_, ho, rfl⟩ PySem.F.entry_tuple_index (PySem.F.args_tuple_index_2 _ _) (TI.tuple_indexAt p its.toArray n dd sls uy (fun w => PyData.eqv (SeqAt.readOf s.heap w) d) j hj ?_ fun m hm hmj => ?_)
      ⟨ho, SeqAt.items_eqAt (vs := its.toArray) (show ReadsAll s.heap its.toArray.toList ds as from rd) r1 cls (SeqAt.canLay_of_shaped sd) room, .int (j : Nat), H, I.tok _, ⟨_, rfl⟩, q⟩
    · have e1 := Option.some.inj ((at_ j hj).symm.trans hz)
      show PyData.eqv (SeqAt.readOf s.heap its.toArray[j]) d = true
      rw [e1]
      exact hzj
    · exact hno m _ hmj (at_ m hm)
/-- xs.index(x) -/
def gIdxL : D → D → (R → Prop) → Prop := fun d e q => match d with
  | .list ds => (Shp (.list ds) ∧ Shp e) ∧ (match firstAt ds e with
    | some j => q (.im (.int j))
    | none => False)
  | _ => False
def gIdxT : D → D → (R → Prop) → Prop := fun d e q => match d with
  | .tuple ds => (Shp (.tuple ds) ∧ Shp e) ∧ (match firstAt ds e with
    | some j => q (.im (.int j))
    | none => False)
  | _ => False
def wIdx (wo wa : WE) : WE := fun ρ Qd Qx => wo ρ (fun o ρ1 => match vw ρ1 (pin o) with
  | some (.list _) => wa ρ1 (fun x ρ2 => v2 gIdxL (pin o) (pin x) ρ2 Qd) Qx
  | some (.tuple _) => wa ρ1 (fun x ρ2 => v2 gIdxT (pin o) (pin x) ρ2 Qd) Qx
  | _ => False) Qx
theorem ok_idxL : Ok2 c (fun x y H Q => rIndexD c.K x [y] H Q) gIdxL := fun G H σ ρ v v' r r' d e Qd Q rl rr rr' h1 h2 q hg => by
  cases d with
  | list ds =>
    obtain ⟨⟨s1, s2⟩, q⟩ := q
    cases hj : firstAt ds e with
    | none => rw [hj] at q; exact q.elim
    | some j =>
      rw [hj] at q
      obtain ⟨z, h3, h4, h5⟩ := firstAt_get hj
      obtain ⟨a1, us, rfl, _, _⟩ := vw_lst rl rr h1
      exact ⟨a1, v', e, ds, j, z, rfl, rfl, Rp.dp _ _ (vw_ok rl rr h1) s1.2, Rp.dp _ _ (vw_ok rl rr' h2) s2.2, s1.1, s2.1, h3, h4, h5, got_flat hg rl rfl q⟩
  | _ => exact q.elim
theorem ok_idxT : Ok2 c (fun x y H Q => rIndexTD c.K x [y] H Q) gIdxT := fun G H σ ρ v v' r r' d e Qd Q rl rr rr' h1 h2 q hg => by
  cases d with
  | tuple ds =>
    obtain ⟨⟨s1, s2⟩, q⟩ := q
    cases hj : firstAt ds e with
    | none => rw [hj] at q; exact q.elim
    | some j =>
      rw [hj] at q
      obtain ⟨z, h3, h4, h5⟩ := firstAt_get hj
      obtain ⟨a1, us, rfl, _, _⟩ := vw_tup rl rr h1
      exact ⟨a1, v', e, ds, j, z, rfl, rfl, Rp.dp _ _ (vw_ok rl rr h1) s1.2, Rp.dp _ _ (vw_ok rl rr' h2) s2.2, s1.1, s2.1, h3, h4, h5, got_flat hg rl rfl q⟩
  | _ => exact q.elim
/-- the one argument, then an operation on receiver and argument -/
theorem la_one {op : R2} {g : D → D → (R → Prop) → Prop} (S : Ok2 c op g) {σ : L2.St} {H : Hp} {Q : VK} {v : V} {r : R} {G : Hp} {ρ : Rn} {Qd : R → Rn → Prop} {Qx : Xn → Prop} (rl : Rel c.K c.pa c.le G H σ ρ) (hc : R.calm r) (rr : RR c.K c.pa G H σ ρ v r)
    (q : wa ρ (fun x ρ2 => v2 g r (pin x) ρ2 Qd) Qx) (hQ : Got c G H σ ρ Qd Q) (hX : LX c G H σ ρ Qx) : tCons (LE c wa) tNil σ H fun xs H2 => ∃ y, xs = [y] ∧ op v y H2 Q := by
  refine ⟨G, ρ, _, Qx, rl, q, fun v2 r2 ρ3 G3 H3 n3 rr3 fr3 q3 => ⟨v2, rfl, ?_⟩, hX⟩
  obtain ⟨G4, n4, _, rr4⟩ := n3.pin rl rr3 fr3
  exact snd2 S _ _ _ _ _ _ _ _ Qd Q n4.r hc (pin_calm r2) (calm_RR hc n4.a.g rr) rr4 q3 fun v' r' ρ' G' H' n6 rr6 fr6 q6 => hQ v' r' ρ' G' H' (n4.trans rl n6) rr6 (fr6.trans n4) q6
theorem d_index (hr : Rm k X.A) (ho : DE X c o wo) (ha : DE X c e wa) (hbase : attributeBase o "index" X.env (eval o X.env) = eval o X.env := by rfl)
    (hfew : ((backTo cpos (starEach [e] X.env)).all (fun x => !x.1) && (backToKw cpos (keywordEach [] X.env)).all (fun x => x.1.isSome) && decide ([e].length + ([] : List Keyword).length + (if ([] : List Keyword).isEmpty then 0 else 1) < 30)) = true := by rfl)
    (hline : (apos.endLine == cpos.line) = true := by rfl) (hs : starEach [e] X.env = (false, eval e X.env) :: starEach [] X.env := by rfl) (hpl : (backTo cpos (starEach [] X.env)).any (·.1) = false := by rfl) (hK : X.K = c.K := by rfl) :
    DE X c (.Call (.Attribute o "index" apos) [e] [] cpos) (wIdx wo wa) := by
  have hu : X.A.units + 65 < cLine := by have := hr.r.un; omega
  refine PEw (pe_bmY PySem.F.plainAttrs_list PySem.F.slot_list_index PySem.F.type_list_index (mt_indexD hu) PySem.F.plainAttrs_tuple PySem.F.slot_tuple_index PySem.F.type_tuple_index (mt_indexTD hu) ho (pa_cons ha pa_nil hs) hbase hfew hline hs hpl) fun σ H Q ⟨G, ρ, Qd, Qx, rl, hw, hQ, hX⟩ => ?_
  refine ⟨G, ρ, _, Qx, rl, hw, fun v r1 ρ1 G1 H1 n1 rr fr q => ?_, hX⟩
  obtain ⟨G2, n2, _, rr2⟩ := n1.pin rl rr fr
  have hg : Got c G2 H1 σ ρ1 Qd Q := fun v' r' ρ' G' H' n6 rr6 fr6 q6 => hQ v' r' ρ' G' H' (n2.trans rl n6) rr6 (fr6.trans n2) q6
  cases e1 : vw ρ1 (pin r1) with
  | none => simp only [e1] at q
  | some d =>
    cases d with
    | list ds =>
      simp only [e1] at q
      obtain ⟨a1, us, rfl, t1, _⟩ := vw_lst n2.r rr2 e1
      refine .inl ⟨TyOk.of_lst (SqL.of t1), ?_⟩
      obtain ⟨Gq, ρq, Qq, Qxq, k1, k2, k3, k4⟩ := la_one ok_idxL n2.r (pin_calm r1) rr2 q hg (hX.trans rl n2)
      refine ⟨Gq, ρq, Qq, Qxq, k1, k2, fun v' r' ρ' G' H' m1 m2 m3 m4 => ?_, k4⟩
      obtain ⟨y, ey, o1⟩ := k3 v' r' ρ' G' H' m1 m2 m3 m4
      cases ey
      rw [hK]
      exact o1
    | tuple ds =>
      simp only [e1] at q
      obtain ⟨a1, us, rfl, t1, _⟩ := vw_tup n2.r rr2 e1
      refine .inr ⟨TyOk.of_tup hK (t1.mono n2.r.ext), ?_⟩
      obtain ⟨Gq, ρq, Qq, Qxq, k1, k2, k3, k4⟩ := la_one ok_idxT n2.r (pin_calm r1) rr2 q hg (hX.trans rl n2)
      refine ⟨Gq, ρq, Qq, Qxq, k1, k2, fun v' r' ρ' G' H' m1 m2 m3 m4 => ?_, k4⟩
      obtain ⟨y, ey, o1⟩ := k3 v' r' ρ' G' H' m1 m2 m3 m4
      cases ey
      rw [hK]
      exact o1
    | _ => simp only [e1] at q
end
end Tr

namespace Tr
open PySem L2

/-! ### a < b < c -/
def wCh (g1 g2 : D → D → (R → Prop) → Prop) (wa wb wc : WE) : WE := fun ρ Qd Qx => wa ρ (fun r ρ1 => wb ρ1 (fun r' ρ2 => v2 g1 (pin r) (pin r') ρ2 fun z ρ3 => match z with
  | .im (.bool k) => IfW k (wc ρ3 (fun r'' ρ4 => v2 g2 (pin r') (pin r'') ρ4 Qd) Qx) (Qd (.im (.bool false)) ρ3)
  | _ => False) Qx) Qx
section
variable {X : Cx} {c : Ct} {a b e : Expr} {pos : Pos} {wa wb wc : WE} {op op' : CmpOp} {r1 r2 : R2} {g1 g2 : D → D → (R → Prop) → Prop}
theorem ch_ok (S1 : Ok2 c r1 g1) (S2 : Ok2 c r2 g2) {σ : L2.St} {H : Hp} {Q : VK} (h : LE c (wCh g1 g2 wa wb wc) σ H Q) : tChain r1 r2 (LE c wa) (LE c wb) (LE c wc) σ H Q := by
  obtain ⟨G, ρ, Qd, Qx, rl, hw, hQ, hX⟩ := h
  refine ⟨G, ρ, _, Qx, rl, hw, fun v r ρ1 G1 H1 n1 rr fr q => ?_, hX⟩
  obtain ⟨G2, n2, _, rr2⟩ := n1.pin rl rr fr
  refine ⟨G2, ρ1, _, Qx, n2.r, q, fun v2 r2 ρ3 G3 H3 n3 rr3 fr3 q3 => ?_, hX.trans rl n2⟩
  obtain ⟨G4, n4, _, rr4⟩ := n3.pin n2.r rr3 fr3
  have n5 := n2.trans rl n4
  refine snd2 S1 _ _ _ _ _ _ _ _ _ _ n4.r (pin_calm r) (pin_calm r2) (calm_RR (pin_calm r) n4.a.g rr2) rr4 q3 fun z rz ρ6 G6 H6 n6 rr6 fr6 q6 => ?_
  cases rz with
  | im d =>
    cases d with
    | bool k =>
      cases (show Rp c.K G6 z (.bool k) from rr6)
      have q6 : IfW k (wc ρ6 (fun r'' ρ4 => Tr.v2 g2 (pin r2) (pin r'') ρ4 Qd) Qx) (Qd (.im (.bool false)) ρ6) := q6
      have n7 := n5.trans rl n6
      refine ⟨k, rfl, ?_⟩
      cases k with
      | false => exact hQ (.bl false) (.im (.bool false)) ρ6 G6 H6 n7 (.bl false) trivial (q6.f rfl)
      | true =>
        refine ⟨G6, ρ6, _, Qx, n7.r, q6.t rfl, fun v8 r8 ρ8 G8 H8 n8 rr8 fr8 q8 => ?_, hX.trans rl n7⟩
        obtain ⟨G9, n9, _, rr9⟩ := n8.pin n7.r rr8 fr8
        have n10 := n7.trans rl n9
        exact snd2 S2 _ _ _ _ _ _ _ _ Qd Q n9.r (pin_calm r2) (pin_calm r8) (calm_RR (pin_calm r2) (n6.trans n4.r n9).a.g rr4) rr9 q8 fun v' r' ρ' G' H' n11 rr11 fr11 q11 => hQ v' r' ρ' G' H' (n10.trans rl n11) rr11 (fr11.trans n10) q11
    | _ => exact q6.elim
  | _ => exact q6.elim
theorem d_ch (ho : OpR X (compareOp op) r1) (S1 : Ok2 c r1 g1) (ho' : OpR X (compareOp op') r2) (S2 : Ok2 c r2 g2) (ha : DE X c a wa) (hb : DE X c b wb) (hc : DE X c e wc) (hm : lastMarks [op, op'] [b, e] = false := by with_unfolding_all rfl) : DE X c (.Compare a [op, op'] [b, e] pos) (wCh g1 g2 wa wb wc) :=
  PEw (pe_chain ho ho' ha hb hc hm) fun σ H Q h => ch_ok S1 S2 h
theorem d_chT (ho : OpR X (compareOp op) r1) (S1 : Ok2 c r1 g1) (ho' : OpR X (compareOp op') r2) (S2 : Ok2 c r2 g2) (ha : DE X c a wa) (hb : DE X c b wb) (hc : DE X c e wc) (hm : lastMarks [op, op'] [b, e] = false := by with_unfolding_all rfl) : DT X c (.Compare a [op, op'] [b, e] pos) (wT (wCh g1 g2 wa wb wc)) :=
  PTw (pt_chain ho ho' ha hb hc hm) fun σ H Q h => ch_ok S1 S2 (lt_of h)
end
end Tr
namespace Tr
open PySem L2
/-! ### range with a step -/
def rangeC (lo k : Int) (n : Nat) : List D := (List.range n).map fun i => .int (lo + (i : Nat) * k)
theorem rangeC_len (lo k : Int) (n : Nat) : (rangeC lo k n).length = n := by unfold rangeC; rw [List.length_map, List.length_range]
theorem wk_rangeC {K : PySem.W.Frag} {G : Hp} {lo k : Int} {n : Nat} : Wk false K (Itc lo k n) (rangeC lo k n) G := fun G1 H1 s1 s2 i => by
  refine ⟨fun d hd => ?_, fun e => by rw [rangeC_len] at e; rw [← e]; exact Nat.le_refl _⟩
  have hi : i < n := by
    have := (List.getElem?_eq_some_iff.mp hd).1
    rw [rangeC_len] at this
    exact this
  refine ⟨hi, fun x H2 hy => .inl ⟨hy.1, ?_⟩⟩
  unfold rangeC at hd
  rw [List.getElem?_map, List.getElem?_range hi] at hd
  cases hd
  rw [hy.2]
  exact .int _
def wiC (ws : WA) : WI := fun ρ Qd Qx => ws ρ (fun rs ρ1 => match rs with
  | [r, r', r''] => (match vw ρ1 r with
    | some (.int i) => (match vw ρ1 r' with
      | some (.int j) => (match vw ρ1 r'' with
        | some (.int k) => ∃ n : Nat, RgC i j k n ∧ Qd (rangeC i k n) ρ1
        | _ => False)
      | _ => False)
    | _ => False)
  | _ => False) Qx
section
variable {X : Cx} {c : Ct} {a b e tg : Expr} {p pos : Pos}
theorem d_iC {ws : WA} (hg : Gl X "range") (hm : X.mg "range" = none) (ha : DA X c [a, b, e] ws) (hs : starEach [a, b, e] X.env = (false, eval a X.env) :: starEach [b, e] X.env := by rfl) (hpl : (backTo pos (starEach [b, e] X.env)).any (·.1) = false := by rfl) : DI false X c tg (.Call (.Name "range" p) [a, b, e] [] pos) (wiC ws) :=
  PIw (pi_range3 hg hm ha hs hpl) fun σ H R0 ⟨G, ρ, Qd, Qx, rl, hw, hQ, hX⟩ => ⟨G, ρ, _, Qx, rl, hw, fun vs rs ρ1 G1 H1 n1 rr q => by
    cases rr with
    | nil => exact q.elim
    | cons r1 rest =>
      cases rest with
      | nil => exact q.elim
      | cons r2 rest =>
        cases rest with
        | nil => exact q.elim
        | cons r3 rest =>
          cases rest with
          | cons _ _ => exact q.elim
          | nil =>
            rename_i v r v' r' v'' r''
            cases e1 : vw ρ1 r with
            | none => simp only [e1] at q
            | some d =>
              cases d with
              | int i =>
                cases e2 : vw ρ1 r' with
                | none => simp only [e1, e2] at q
                | some d' =>
                  cases d' with
                  | int j =>
                    cases e3 : vw ρ1 r'' with
                    | none => simp only [e1, e2, e3] at q
                    | some d'' =>
                      cases d'' with
                      | int k =>
                        simp only [e1, e2, e3] at q
                        obtain ⟨n, hn, q⟩ := q
                        have f1 := vw_int n1.r r1.2 e1
                        have f2 := vw_int n1.r r2.2 e2
                        have f3 := vw_int n1.r r3.2 e3
                        subst f1 f2 f3
                        exact ⟨i, j, k, n, rfl, hn, hQ _ ρ1 G1 H1 _ n1 wk_rangeC q⟩
                      | _ => simp only [e1, e2, e3] at q
                  | _ => simp only [e1, e2] at q
              | _ => simp only [e1] at q, hX⟩

/-! ### max, min of a list; sorted; all, any -/
def gMaxL : D → (R → Prop) → Prop := fun d q => match d with
  | .list ds => ∃ ns : List Int, ds = ns.map PyData.int ∧ 0 < ns.length ∧ ∀ m, m ∈ ns → (∀ y, y ∈ ns → y ≤ m) → q (.im (.int m))
  | _ => False
def gMinL : D → (R → Prop) → Prop := fun d q => match d with
  | .list ds => ∃ ns : List Int, ds = ns.map PyData.int ∧ 0 < ns.length ∧ ∀ m, m ∈ ns → (∀ y, y ∈ ns → m ≤ y) → q (.im (.int m))
  | _ => False
def gSortI : D → (R → Prop) → Prop := fun d q => match d with
  | .list ds => ∃ ns : List Int, ds = ns.map PyData.int ∧ ∀ ms : List Int, ms.Perm ns → ms.Pairwise (· ≤ ·) → q (.tmp (ms.map PyData.int))
  | _ => False
def gAll : D → (R → Prop) → Prop := fun d q => match d with
  | .list ds => ∃ bs : List Bool, ds = bs.map PyData.bool ∧ q (.im (.bool (hid (bs.all id))))
  | _ => False
def gAny : D → (R → Prop) → Prop := fun d q => match d with
  | .list ds => ∃ bs : List Bool, ds = bs.map PyData.bool ∧ q (.im (.bool (hid (bs.any id))))
  | _ => False
theorem RpAll.bools_inv {K : PySem.W.Frag} {G : Hp} : ∀ {bs : List Bool} {vs : List V}, RpAll K G vs (bs.map PyData.bool) → vs = bs.map V.bl
  | [], _, h => by cases h; rfl
  | n :: ns, _, h => by
    cases h with
    | cons h1 h2 =>
      cases h1
      rw [List.map_cons, RpAll.bools_inv h2]
variable {ws : WA}
theorem d_maxL (hc : X.calm = true) (hg : Gl X "max") (hm : X.mg "max" = none) (ha : DA X c [e] ws) (hK : X.K = c.K := by rfl) (he : starEach [e] X.env = (false, eval e X.env) :: starEach [] X.env := by rfl) (hpl : (backTo pos (starEach [] X.env)).any (·.1) = false := by rfl) : DE X c (.Call (.Name "max" p) [e] [] pos) (wA (vA1 gMaxL) ws) :=
  d_callB (cr_max hc) (sndA1 fun G H σ ρ v r d Qd Q rl rr h1 q hg => by
    cases d with
    | list ds =>
      obtain ⟨ns, rfl, hl, q⟩ := q
      obtain ⟨a1, us, rfl, t1, p1⟩ := vw_lst rl rr h1
      have e3 := RpAll.ints_inv p1
      subst e3
      exact ⟨a1, ns, rfl, SqL.of t1, hl, fun m h1 h2 => got_flat hg rl rfl (q m h1 h2)⟩
    | _ => exact q.elim) hg hm (by decide +kernel) ha (he := he) (hpl := hpl)
theorem d_minL (hc : X.calm = true) (hg : Gl X "min") (hm : X.mg "min" = none) (ha : DA X c [e] ws) (hK : X.K = c.K := by rfl) (he : starEach [e] X.env = (false, eval e X.env) :: starEach [] X.env := by rfl) (hpl : (backTo pos (starEach [] X.env)).any (·.1) = false := by rfl) : DE X c (.Call (.Name "min" p) [e] [] pos) (wA (vA1 gMinL) ws) :=
  d_callB (cr_min hc) (sndA1 fun G H σ ρ v r d Qd Q rl rr h1 q hg => by
    cases d with
    | list ds =>
      obtain ⟨ns, rfl, hl, q⟩ := q
      obtain ⟨a1, us, rfl, t1, p1⟩ := vw_lst rl rr h1
      have e3 := RpAll.ints_inv p1
      subst e3
      exact ⟨a1, ns, rfl, SqL.of t1, hl, fun m h1 h2 => got_flat hg rl rfl (q m h1 h2)⟩
    | _ => exact q.elim) hg hm (by decide +kernel) ha (he := he) (hpl := hpl)
theorem d_sortedI (hg : Gl X "sorted") (hm : X.mg "sorted" = none) (ha : DA X c [e] ws) (hK : X.K = c.K := by rfl) (he : starEach [e] X.env = (false, eval e X.env) :: starEach [] X.env := by rfl) (hpl : (backTo pos (starEach [] X.env)).any (·.1) = false := by rfl) : DE X c (.Call (.Name "sorted" p) [e] [] pos) (wA (vA1 gSortI) ws) :=
  d_callB cr_sortedI (sndA1 fun G H σ ρ v r d Qd Q rl rr h1 q hg => by
    cases d with
    | list ds =>
      obtain ⟨ns, rfl, q⟩ := q
      obtain ⟨a1, us, rfl, t1, p1⟩ := vw_lst rl rr h1
      have e3 := RpAll.ints_inv p1
      subst e3
      exact ⟨a1, ns, rfl, SqL.of t1, fun ms p' h2 h3 hp => got_lst hg rl (RpAll.ints ms) (q ms h2 h3) p' hp⟩
    | _ => exact q.elim) hg hm (by decide +kernel) ha (he := he) (hpl := hpl)
theorem d_all (hc : X.calm = true) (hg : Gl X "all") (hm : X.mg "all" = none) (ha : DA X c [e] ws) (hK : X.K = c.K := by rfl) (he : starEach [e] X.env = (false, eval e X.env) :: starEach [] X.env := by rfl) (hpl : (backTo pos (starEach [] X.env)).any (·.1) = false := by rfl) : DE X c (.Call (.Name "all" p) [e] [] pos) (wA (vA1 gAll) ws) :=
  d_callB (cr_all hc) (sndA1 fun G H σ ρ v r d Qd Q rl rr h1 q hg => by
    cases d with
    | list ds =>
      obtain ⟨ns, rfl, q⟩ := q
      obtain ⟨a1, us, rfl, t1, p1⟩ := vw_lst rl rr h1
      have e3 := RpAll.bools_inv p1
      subst e3
      exact ⟨a1, ns, rfl, SqL.of t1, got_flat hg rl (flat_hid _) q⟩
    | _ => exact q.elim) hg hm (by decide +kernel) ha (he := he) (hpl := hpl)
theorem d_any (hc : X.calm = true) (hg : Gl X "any") (hm : X.mg "any" = none) (ha : DA X c [e] ws) (hK : X.K = c.K := by rfl) (he : starEach [e] X.env = (false, eval e X.env) :: starEach [] X.env := by rfl) (hpl : (backTo pos (starEach [] X.env)).any (·.1) = false := by rfl) : DE X c (.Call (.Name "any" p) [e] [] pos) (wA (vA1 gAny) ws) :=
  d_callB (cr_any hc) (sndA1 fun G H σ ρ v r d Qd Q rl rr h1 q hg => by
    cases d with
    | list ds =>
      obtain ⟨ns, rfl, q⟩ := q
      obtain ⟨a1, us, rfl, t1, p1⟩ := vw_lst rl rr h1
      have e3 := RpAll.bools_inv p1
      subst e3
      exact ⟨a1, ns, rfl, SqL.of t1, got_flat hg rl (flat_hid _) q⟩
    | _ => exact q.elim) hg hm (by decide +kernel) ha (he := he) (hpl := hpl)
end
end Tr

namespace Tr
open PySem L2

/-! ### max, min of a list or a tuple of data -/
def rExt (K : PySem.W.Frag) (best : D → List D → D) : List V → Hp → VK → Prop := fun vs H Q => ∃ (a : Addr) (xs : List V) (d : D) (ds : List D), vs = [V.ref a] ∧ (SqL K H a xs ∨ SqT K H a xs) ∧ DpAll K H xs (d :: ds) ∧ PyData.canLayAll0 (d :: ds) = true ∧ PyData.depthAll (d :: ds) ≤ 60 ∧ PySem.W.AlikeAll (d :: ds) ∧
  ∀ (i : Nat) (v : V), xs[i]? = some v → (d :: ds)[i]? = some (best d ds) → Q v H
section
variable {X : Cx}
theorem best_at {H : Hp} {s : Shared} {σ : L2.St} {pins : List (Addr × Obj)} {Q : VK} {xs : List V} {ds : List D} {its : List Value} {as : List Addr} {b : D} (I : Inv X pins σ H s) (rv : Vals xs its) (rd : ReadsAll s.heap its ds as) (cl : PyData.canLayAll0 ds = true)
    (q : ∀ (i : Nat) (v : V), xs[i]? = some v → ds[i]? = some b → Q v H) {i : Nat} {v : Value} {h' : Heap} {tk : Nat} {bs : List Addr} (hi : its.toArray[i]? = some v) (hr : Reads h' v b bs) (hk : ∀ c o, s.heap.get? c = some o → h'.get? c = some o) : EP X pins σ Q v { s with heap := h', toks := tk } := by
  have hi : its[i]? = some v := by simpa using hi
  have hmap := SeqAt.readsAll_map ds its as cl rd
  obtain ⟨cs, r1, hl, hm, _⟩ := PySem.W.readsAll_at rd i v hi
  have e1 : ds[i]? = some (ds.getD i .none) := by
    rw [List.getD_eq_getElem?_getD, List.getElem?_eq_getElem hl]
    rfl
  have e2 : b = ds.getD i .none := by
    have c1 : (ds.getD i .none).canLay0 = true := PyData.canLay0_of_mem ds _ cl hm
    exact (SeqAt.Reads.unique _ _ _ _ _ c1 (PyProof.Rows.Reads.keeps hk r1) hr).symm
  obtain ⟨x, hx, rx⟩ : ∃ x, xs[i]? = some x ∧ RelV x v := by
    have hl2 : i < xs.length := by rw [rv.length]; exact (List.getElem?_eq_some_iff.mp hi).1
    obtain ⟨u, hu, ru⟩ := rv.get (List.getElem?_eq_getElem hl2)
    rw [hi] at hu
    cases hu
    exact ⟨_, List.getElem?_eq_getElem hl2, ru⟩
  exact ⟨x, H, I.kept hk, rx, q i x hx (by rw [e1, e2])⟩
theorem cr_maxX (hc : X.calm = true) (hu : X.A.units + 66 < cLine) : CallR X (.builtin "max") (rExt X.K PySem.W.maxD) := by
  intro pins s σ H vs us Q I r h
  obtain ⟨a, xs, d, ds, rfl, hs, hd, cl, dp, al, q⟩ := h
  rw [Vals.ref1 r]
  have hu2 : X.A.units + 1 + PyData.depthAll (d :: ds) < cLine := by omega
  rcases hs with hs | hs
  · obtain ⟨its, rv, hl, _⟩ := I.list hs
    obtain ⟨as, rd⟩ := Dp.readsAll I _ _ its hd rv
    exact PySem.W.max_list_data (I.ok.hd hc) hl.isList (show ReadsAll s.heap its.toArray.toList (d :: ds) as from rd) al hu2 fun i v h' tk bs h1 h2 h3 => best_at I rv rd cl q h1 h2 h3
  · obtain ⟨its, rv, hl, _⟩ := I.tuple hs
    obtain ⟨as, rd⟩ := Dp.readsAll I _ _ its hd rv
    exact PySem.W.max_tuple_data (I.ok.hd hc) hl (show ReadsAll s.heap its.toArray.toList (d :: ds) as from rd) al hu2 fun i v h' tk bs h1 h2 h3 => best_at I rv rd cl q h1 h2 h3
theorem cr_minX (hc : X.calm = true) (hu : X.A.units + 66 < cLine) : CallR X (.builtin "min") (rExt X.K PySem.W.minD) := by
  intro pins s σ H vs us Q I r h
  obtain ⟨a, xs, d, ds, rfl, hs, hd, cl, dp, al, q⟩ := h
  rw [Vals.ref1 r]
  have hu2 : X.A.units + 1 + PyData.depthAll (d :: ds) < cLine := by omega
  rcases hs with hs | hs
  · obtain ⟨its, rv, hl, _⟩ := I.list hs
    obtain ⟨as, rd⟩ := Dp.readsAll I _ _ its hd rv
    exact PySem.W.min_list_data (I.ok.hd hc) hl.isList (show ReadsAll s.heap its.toArray.toList (d :: ds) as from rd) al hu2 fun i v h' tk bs h1 h2 h3 => best_at I rv rd cl q h1 h2 h3
  · obtain ⟨its, rv, hl, _⟩ := I.tuple hs
    obtain ⟨as, rd⟩ := Dp.readsAll I _ _ its hd rv
    exact PySem.W.min_tuple_data (I.ok.hd hc) hl (show ReadsAll s.heap its.toArray.toList (d :: ds) as from rd) al hu2 fun i v h' tk bs h1 h2 h3 => best_at I rv rd cl q h1 h2 h3
end
end Tr
namespace Tr
open PySem L2
section
variable {X : Cx} {c : Ct} {e : Expr} {p pos : Pos} {ws : WA} {k : Nat}
/-- data that can be compared with one another -/
def Ord1 (ds : List D) : Prop := (Shp (.list ds) ∧ PyData.depthAll ds ≤ 60) ∧ PySem.W.AlikeAll ds
def gExt (best : D → List D → D) : D → (R → Prop) → Prop := fun d q => match d with
  | .list (x :: xs) => Ord1 (x :: xs) ∧ q (.im (best x xs))
  | .tuple (x :: xs) => Ord1 (x :: xs) ∧ q (.im (best x xs))
  | _ => False
theorem RpAll.get2 {K : PySem.W.Frag} {G : Hp} {vs : List V} {ds : List D} {i : Nat} {v : V} {d : D} (h : RpAll K G vs ds) (e1 : vs[i]? = some v) (e2 : ds[i]? = some d) : Rp K G v d := by
  obtain ⟨u, h1, h2⟩ := RpAll.get h e2
  rw [e1] at h1
  cases h1
  exact h2
theorem ok_ext {best : D → List D → D} : Ok1 c (fun x H Q => rExt c.K best [x] H Q) (gExt best) := fun G H σ ρ v r d Qd Q rl rr h1 q hg => by
  cases d with
  | list ds =>
    cases ds with
    | nil => exact q.elim
    | cons d0 ds =>
      obtain ⟨⟨⟨s1, s2⟩, s3⟩, q⟩ := q
      obtain ⟨a1, us, rfl, t1, p1⟩ := vw_lst rl rr h1
      have cl : PyData.canLayAll0 (d0 :: ds) = true := by simpa only [PyData.canLay0] using SeqAt.canLay_of_shaped s1.1
      have hd : PyData.hasDictAll (d0 :: ds) = false := by simpa only [PyData.hasDict] using s1.2
      exact ⟨a1, us, d0, ds, rfl, .inl (SqL.of t1), RpAll.dp _ _ (RpAll.mono rl.ext _ _ p1) hd, cl, s2, s3, fun i v hi hb => got_known hg rl (RpAll.get2 p1 hi hb) q⟩
  | tuple ds =>
    cases ds with
    | nil => exact q.elim
    | cons d0 ds =>
      obtain ⟨⟨⟨s1, s2⟩, s3⟩, q⟩ := q
      obtain ⟨a1, us, rfl, t1, p1⟩ := vw_tup rl rr h1
      have cl : PyData.canLayAll0 (d0 :: ds) = true := by simpa only [PyData.canLay0] using SeqAt.canLay_of_shaped s1.1
      have hd : PyData.hasDictAll (d0 :: ds) = false := by simpa only [PyData.hasDict] using s1.2
      exact ⟨a1, us, d0, ds, rfl, .inr (t1.mono rl.ext).sq, RpAll.dp _ _ (RpAll.mono rl.ext _ _ p1) hd, cl, s2, s3, fun i v hi hb => got_known hg rl (RpAll.get2 p1 hi hb) q⟩
  | _ => exact q.elim
theorem d_maxX (hr : Rm k X.A) (hc : X.calm = true) (hg : Gl X "max") (hm : X.mg "max" = none) (ha : DA X c [e] ws) (hK : X.K = c.K := by rfl) (he : starEach [e] X.env = (false, eval e X.env) :: starEach [] X.env := by rfl) (hpl : (backTo pos (starEach [] X.env)).any (·.1) = false := by rfl) : DE X c (.Call (.Name "max" p) [e] [] pos) (wA (vA1 (gExt PySem.W.maxD)) ws) :=
  d_callB (cr_maxX hc hr.u66) (sndA1 (by rw [hK]; exact ok_ext)) hg hm (by decide +kernel) ha (he := he) (hpl := hpl)
theorem d_minX (hr : Rm k X.A) (hc : X.calm = true) (hg : Gl X "min") (hm : X.mg "min" = none) (ha : DA X c [e] ws) (hK : X.K = c.K := by rfl) (he : starEach [e] X.env = (false, eval e X.env) :: starEach [] X.env := by rfl) (hpl : (backTo pos (starEach [] X.env)).any (·.1) = false := by rfl) : DE X c (.Call (.Name "min" p) [e] [] pos) (wA (vA1 (gExt PySem.W.minD)) ws) :=
  d_callB (cr_minX hc hr.u66) (sndA1 (by rw [hK]; exact ok_ext)) hg hm (by decide +kernel) ha (he := he) (hpl := hpl)
end
end Tr
namespace Tr
open PySem L2
/-! ### sorted of a list of data -/
def sortD (ds : List D) : List D := ds.mergeSort (PySem.W.dataLe false id)
def rSortX (K : PySem.W.Frag) : List V → Hp → VK → Prop := fun vs H Q => ∃ (a : Addr) (xs : List V) (ds : List D), vs = [V.ref a] ∧ SqL K H a xs ∧ DpAll K H xs ds ∧ PySem.W.AllAlike ds ∧ PySem.W.Sortable ds ∧ (∀ d ∈ ds, d.depth ≤ 60) ∧
  ∀ (p : Addr) (ys : List V), (∀ P : V → D → Prop, Paired P xs ds → Paired P ys (sortD ds)) → H p = none → Q (.ref p) (upd H p (.lst ys))
theorem paired_zip {P : V → D → Prop} : ∀ {xs : List V} {ds : List D}, Paired P xs ds → ∀ b ∈ xs.zip ds, P b.1 b.2
  | _, _, .nil => fun b hb => absurd hb List.not_mem_nil
  | _, _, .cons h t => fun b hb => by
    rw [List.zip_cons_cons] at hb
    rcases List.mem_cons.mp hb with z | z
    · rw [z]; exact h
    · exact paired_zip t b z
theorem zip_paired {P : V → D → Prop} : ∀ {bs : List (V × D)}, (∀ b ∈ bs, P b.1 b.2) → Paired P (bs.map (·.1)) (bs.map (·.2))
  | [], _ => .nil
  | b :: bs, h => .cons (h b List.mem_cons_self) (zip_paired fun c hc => h c (List.mem_cons_of_mem _ hc))
theorem each_zip {h : Heap} : ∀ {xs : List V} {vs : List Value} {ds : List D} {as : List Addr}, Vals xs vs → ReadsAll h vs ds as →
    PySem.W.EachIs (fun (v : Value) (b : V × D) => RelV b.1 v) vs (xs.zip ds) ∧ PySem.W.EachIs (fun (v : Value) (b : V × D) => ∃ as, Reads h v b.2 as) vs (xs.zip ds) ∧ (xs.zip ds).map (·.2) = ds
  | _, _, _, _, .nil, .nil => ⟨.nil, .nil, rfl⟩
  | _, _, _, _, .cons r t, .cons g u => by
    obtain ⟨h1, h2, h3⟩ := each_zip t u
    exact ⟨.cons r h1, .cons ⟨_, g⟩ h2, by rw [List.zip_cons_cons, List.map_cons, h3]⟩
theorem each_vals : ∀ {out : List Value} {bs : List (V × D)}, PySem.W.EachIs (fun (v : Value) (b : V × D) => RelV b.1 v) out bs → Vals (bs.map (·.1)) out
  | _, _, .nil => .nil
  | _, _, .cons r t => .cons r (each_vals t)
section
variable {X : Cx}
theorem cr_sortedX (hu : X.A.units + 66 < cLine) : CallR X (.builtin "sorted") (rSortX X.K) := by
  intro pins s σ H vs us Q I r h
  obtain ⟨a, xs, ds, rfl, hs, hd, al, so, dp, q⟩ := h
  obtain ⟨its, rv, hl, hz⟩ := I.list hs
  obtain ⟨as, rd⟩ := Dp.readsAll I _ _ its hd rv
  obtain ⟨e1, e2, e3⟩ := each_zip rv rd
  rw [Vals.ref1 r]
  have hlen : (xs.zip ds).length = its.length := e1.length.symm
  refine PySem.W.sorted_data (bs := xs.zip ds) (enc := (·.2)) hl.isList e1 e2 (by rw [e3]; exact al) (by rw [e3]; exact so) (by rw [hlen, ← rv.length]; exact hz) (fun b hb => ?_) fun out h1 h2 => ?_
  · have hm : b.2 ∈ ds := by
      rw [← e3]
      exact List.mem_map.mpr ⟨b, hb, rfl⟩
    have := dp b.2 hm
    omega
  · have perm := List.mergeSort_perm (xs.zip ds) (PySem.W.dataLe false (·.2))
    have em : ((xs.zip ds).mergeSort (PySem.W.dataLe false (·.2))).map (·.2) = sortD ds := by
      unfold sortD
      have h := List.map_mergeSort (r := fun a b : V × D => PySem.W.dataLe false id a.2 b.2) (s := PySem.W.dataLe false id) (f := fun b : V × D => b.2) (l := xs.zip ds) (fun a _ b _ => rfl)
      rw [e3] at h
      exact h
    obtain ⟨ep, he'⟩ := PyProof.Rows.sortedAll_at s.heap its out.toArray
    have hl2 : (((xs.zip ds).mergeSort (PySem.W.dataLe false (·.2))).map (·.1)).length ≤ sizeLine := by
      rw [List.length_map, perm.length_eq, hlen, ← rv.length]
      exact hz
    refine ⟨.ref _, upd H (s.heap.objs.size + 1) (.lst (((xs.zip ds).mergeSort (PySem.W.dataLe false (·.2))).map (·.1))), I.laid (t' := s.toks) (fun _ _ => PyProof.Rows.sortedAll_old) (Nat.le_succ _) ⟨hl2, out, ep, each_vals h2, he'⟩, rfl, q _ _ (fun P hP => ?_) (I.hok.fresh (Nat.le_succ _))⟩
    rw [← em]
    exact zip_paired fun b hb => paired_zip hP b (perm.mem_iff.mp hb)
variable {c : Ct} {e : Expr} {p pos : Pos} {ws : WA} {k : Nat}
theorem rp_paired {K : PySem.W.Frag} {G : Hp} : ∀ {xs : List V} {ds : List D}, RpAll K G xs ds → Paired (Rp K G) xs ds
  | _, _, .nil => .nil
  | _, _, .cons h t => .cons h (rp_paired t)
theorem paired_rp {K : PySem.W.Frag} {G : Hp} : ∀ {xs : List V} {ds : List D}, Paired (Rp K G) xs ds → RpAll K G xs ds
  | _, _, .nil => .nil
  | _, _, .cons h t => .cons h (paired_rp t)
def gSortX : D → (R → Prop) → Prop := fun d q => match d with
  | .list ds => ((PyData.hasDictAll ds = false ∧ PySem.W.AllAlike ds ∧ PySem.W.Sortable ds) ∧ ∀ d ∈ ds, d.depth ≤ 60) ∧ q (.tmp (sortD ds))
  | _ => False
theorem d_sortedX (hr : Rm k X.A) (hg : Gl X "sorted") (hm : X.mg "sorted" = none) (ha : DA X c [e] ws) (hK : X.K = c.K := by rfl) (he : starEach [e] X.env = (false, eval e X.env) :: starEach [] X.env := by rfl) (hpl : (backTo pos (starEach [] X.env)).any (·.1) = false := by rfl) : DE X c (.Call (.Name "sorted" p) [e] [] pos) (wA (vA1 gSortX) ws) :=
  d_callB (cr_sortedX hr.u66) (sndA1 fun G H σ ρ v r d Qd Q rl rr h1 q hg => by
    cases d with
    | list ds =>
      obtain ⟨⟨⟨s1, s2, s3⟩, s4⟩, q⟩ := q
      obtain ⟨a1, us, rfl, t1, p1⟩ := vw_lst rl rr h1
      exact ⟨a1, us, ds, rfl, SqL.of t1, RpAll.dp _ _ (by rw [hK]; exact RpAll.mono rl.ext _ _ p1) s1, s2, s3, s4, fun p' ys hP hp => got_lst hg rl (paired_rp (hP _ (rp_paired p1))) q p' hp⟩
    | _ => exact q.elim) hg hm (by decide +kernel) ha (he := he) (hpl := hpl)
end
end Tr

namespace Tr
open PySem L2

/-! ### isinstance(x, T), T a built-in type -/
def tyN : D → String
  | .none => "NoneType"
  | .bool _ => "bool"
  | .int _ => "int"
  | .str _ => "str"
  | .list _ => "list"
  | .tuple _ => "tuple"
  | .dict _ => "dict"
def isTy (T n : String) : Bool := n == T || (n == "bool" && T == "int")
def gIs (T : String) : D → (R → Prop) → Prop := fun d q => match d with
  | .dict kvs => scrOf kvs = none ∧ q (.im (.bool (hid (isTy T "dict"))))
  | d => q (.im (.bool (hid (isTy T (tyN d)))))
def KitOk (T : String) : Prop := ∀ n ∈ ["NoneType", "bool", "int", "str", "list", "tuple", "dict"], kitB n T = some (isTy T n)
theorem tyx_of {K : PySem.W.Frag} {G : Hp} {v : V} {d : D} (h : Rp K G v d) (n : ∀ k, d = .dict k → scrOf k = none) : TyX K G v (.type (tyN d)) := by
  cases h with
  | non => exact .base .non
  | bl b => exact .base (.bl b)
  | int i => exact .base (.int i)
  | str x => exact .base (.str x)
  | lst h1 _ => exact .base (.lst h1)
  | tup h1 _ =>
    rcases h1 with ⟨o, _, e⟩ | ⟨o, its, k, h2, h3, _⟩
    · exact .fTuple e
    · exact .kTuple h2 h3
  | scr h1 =>
    rename_i ns
    have := n _ rfl
    rw [show scrOf [(PyData.none, PyData.list (ns.map PyData.int))] = some ns from intsOf_ints ns] at this
    cases this
  | dfl h1 h2 => exact .base (.dK h1)
theorem tyN_mem (d : D) : tyN d ∈ ["NoneType", "bool", "int", "str", "list", "tuple", "dict"] := by
  cases d <;> simp [tyN]
section
variable {X : Cx} {c : Ct} {e : Expr} {p p2 pos : Pos} {we : WE} {T : String} {x : Str}
theorem ok_is (hk : KitOk T) : Ok1 c (fun v H Q => rIsi c.K [v, .ty T] H Q) (gIs T) := fun G H σ ρ v r d Qd Q rl rr h1 q hg => by
  have hn : ∀ k, d = .dict k → scrOf k = none := fun k z => by subst z; exact q.1
  have q' : Qd (.im (.bool (hid (isTy T (tyN d))))) ρ := by cases d <;> first | exact q | exact q.2
  exact ⟨v, .ty T, _, .type T, isTy T (tyN d), rfl, .ty T, tyx_of (vw_ok rl rr h1) hn, kit_ty (hk _ (tyN_mem d)), got_flat hg rl (flat_hid _) q'⟩
theorem d_is (hk : KitOk T) (hg : Gl X "isinstance") (hm : X.mg "isinstance" = none) (hg2 : Gl X x) (hm2 : X.mg x = none) (hb : bootBuiltins x = some (.type T)) (ha : DE X c e we) (hK : X.K = c.K := by rfl) (hx : x ≠ "__name__" := by decide) (hx2 : (x == ("__debug__" : Str)) = false := by decide)
    (he : starEach [e, .Name x p2] X.env = (false, eval e X.env) :: starEach [.Name x p2] X.env := by rfl) (he2 : starEach [.Name x p2] X.env = (false, eval (.Name x p2) X.env) :: starEach [] X.env := by rfl) (hpl : (backTo pos (starEach [.Name x p2] X.env)).any (·.1) = false := by rfl) :
    DE X c (.Call (.Name "isinstance" p) [e, .Name x p2] [] pos) (w1 (v1 (gIs T)) we) := by
  have hn : ("isinstance" : Str) ≠ "__name__" := by decide
  refine PEw (pe_callB call_isi hg hm (by decide +kernel) (pa_cons ha (pa_cons (pe_bltn hg2 hm2 hb (show RelV (V.ty T) (.type T) from rfl) hx hx2) pa_nil he2) he) hn (by decide) he hpl) fun σ H Q h => ?_
  have h2 := le1 (op := fun v H Q => rIsi X.K [v, .ty T] H Q) (snd1 (by rw [hK]; exact ok_is hk)) h
  exact h2
end
theorem kit_int : KitOk "int" := by unfold KitOk; decide +kernel
theorem kit_bool : KitOk "bool" := by unfold KitOk; decide +kernel
theorem kit_str : KitOk "str" := by unfold KitOk; decide +kernel
theorem kit_list : KitOk "list" := by unfold KitOk; decide +kernel
theorem kit_tuple : KitOk "tuple" := by unfold KitOk; decide +kernel
end Tr

namespace Tr
open PySem L2

/-! ### what is never reached -/
def wDead : WS := fun _ _ => False
def eDead : WE := fun _ _ _ => False
theorem d_dead {X : Cx} {c : Ct} {sm : Stmt} : DS X c sm wDead := ⟨fun pins s σ H D I ⟨G, ρ, P, rl, hw, _⟩ => hw.elim⟩
theorem d_deadE {X : Cx} {c : Ct} {e : Expr} : DE X c e eDead := ⟨fun pins s σ H Q I ⟨G, ρ, Qd, Qx, rl, hw, _⟩ => hw.elim⟩

/-! ### a list lent to a def that changes it -/
section
variable {K : PySem.W.Frag} {pa : Pa} {le le' : Le} {G H G1 H1 : Hp} {σ σc σ' : L2.St} {ρ ρc ρ' : Rn} {i j : Nat} {l : Bool} {ds es : Ob} {a : Addr}
theorem nw_backM (rl : Rel K pa le G H σ ρ) (hj : ρ[j]? = some (.own l ds)) (hs : σ[j]? = some (some (.ref a))) (only : ∀ b, Own σc ρc b → b = a) (n : Nw K pa le' G H σc ρc G1 H1 σ' ρ') (hi : ρ'[i]? = some (.own true es)) (hle : le' i = some a) :
    Nw K pa le G H σ ρ G1 H1 σ (ρ.set j (.own l es)) ∧ Own σ' ρ' a := by
  have ho : Own σ ρ a := ⟨j, l, ds, hj, hs⟩
  obtain ⟨hHa, hGa⟩ := rl.owT ho
  obtain ⟨ov, z1, b, vs', z2, z3, z4, z5, z6⟩ := n.r.sl i _ hi
  have eb : b = a := by
    have := z6 rfl
    rw [hle] at this
    exact (Option.some.inj this).symm
  subst eb
  have oc : Own σ' ρ' b := ⟨i, true, es, hi, by rw [z1, z2]⟩
  have hjl : j < ρ.length := (List.getElem?_eq_some_iff.mp hj).1
  have own_ : ∀ c, Own σ (ρ.set j (.own l es)) c → Own σ ρ c := fun c ⟨k, l', ds', e1, e2⟩ => by
    by_cases hk : j = k
    · subst hk
      exact ⟨j, l, ds, hj, e2⟩
    · rw [List.getElem?_set_ne hk] at e1
      exact ⟨k, l', ds', e1, e2⟩
  have other : ∀ c, Own σ ρ c → c ≠ b → ¬ Own σc ρc c := fun c _ hn z => hn (only c z)
  have gnone : ∀ c, Own σ ρ c → c ≠ b → G1 c = none := fun c hc hn => by
    obtain ⟨h1, h2⟩ := rl.owT hc
    cases e : G1 c with
    | none => rfl
    | some o =>
      rcases n.a.f c (by rw [e]; simp) with z | z | z
      · exact absurd h2 z
      · exact absurd z h1
      · exact (hn (only c z)).elim
  refine ⟨⟨⟨n.a.g, fun c o e n1 n2 => n.a.h c o e (fun z => n1 (only c z ▸ ho)) n2, fun c hc => ?_, n.a.p⟩, fun c hc => .inl (own_ c hc), ⟨n.r.ext, by rw [List.length_set]; exact rl.len, fun k s e => ?_, fun k m l1 l2 d1 d2 c e1 e2 e3 e4 => ?_, n.r.pot, fun c hc => rl.sep c (own_ c hc)⟩⟩, oc⟩
  · rcases n.a.f c hc with z | z | z
    · exact .inl z
    · exact .inr (.inl z)
    · exact .inr (.inr (only c z ▸ ho))
  · by_cases hk : j = k
    · subst hk
      rw [List.getElem?_set_self hjl] at e
      cases e
      obtain ⟨ov2, y1, b2, ws, y2, _, _, _, y6⟩ := rl.sl j _ hj
      rw [hs] at y1
      cases y1
      cases y2
      exact ⟨_, hs, b, vs', rfl, z3, z4, z5, y6⟩
    · rw [List.getElem?_set_ne hk] at e
      obtain ⟨ov2, y1, y2⟩ := rl.sl k s e
      refine ⟨ov2, y1, ?_⟩
      cases s with
      | no => trivial
      | im d =>
        obtain ⟨x, y3, y4⟩ := y2
        exact ⟨x, y3, Rp.mono n.a.g _ _ y4⟩
      | own l' ds' =>
        obtain ⟨c, ws, y3, y4, y5, y6, y7⟩ := y2
        have hc : Own σ ρ c := ⟨k, l', ds', e, by rw [y1, y3]⟩
        have hn : c ≠ b := fun z => hk (rl.dis j k l l' ds ds' b hj e hs (by rw [y1, y3, z]))
        exact ⟨c, ws, y3, gnone c hc hn, n.a.h c _ y5 (other c hc hn) (rl.sep c hc), y6.mono n.a.g, y7⟩
      | pot => exact y2
  · have back : ∀ (k : Nat) (l1 : Bool) (d1 : Ob), (ρ.set j (.own l es))[k]? = some (.own l1 d1) → ∃ l2 d2, ρ[k]? = some (.own l2 d2) := fun k l1 d1 e => by
      by_cases hk : j = k
      · subst hk
        exact ⟨l, ds, hj⟩
      · rw [List.getElem?_set_ne hk] at e
        exact ⟨l1, d1, e⟩
    obtain ⟨l3, d3, f1⟩ := back k l1 d1 e1
    obtain ⟨l4, d4, f2⟩ := back m l2 d2 e2
    exact rl.dis k m l3 l4 d3 d4 c f1 f2 e3 e4
end
theorem paired_set {α β : Type} {r : α → β → Prop} {x : α} {y : β} (h : r x y) : ∀ {xs : List α} {ys : List β} (i : Nat), Paired r xs ys → Paired r (xs.set i x) (ys.set i y)
  | _, _, _, .nil => .nil
  | _, _, 0, .cons _ t => .cons h t
  | _, _, i + 1, .cons g t => .cons g (paired_set h i t)
theorem paired_get {α β : Type} {r : α → β → Prop} : ∀ {xs : List α} {ys : List β} {i : Nat} {y : β}, Paired r xs ys → ys[i]? = some y → ∃ x, xs[i]? = some x ∧ r x y
  | _, _, _, _, .nil, e => by simp at e
  | _, _, 0, _, .cons h _, e => by simp at e; subst e; exact ⟨_, rfl, h⟩
  | _, _, i + 1, y, .cons _ t, e => by
    obtain ⟨x, h1, h2⟩ := paired_get (i := i) (y := y) t (by simpa using e)
    exact ⟨x, by simpa using h1, h2⟩
/-- a call; the i-th argument is a list of ours that the def may change -/
def wCallM (n np i : Nat) (w : WS) (ws : WA) : WE := fun ρ Qd Qx => ws ρ (fun rs ρ1 => rs.length = np ∧ (match rs[i]? with
  | some (.sl j) => fzp (rs.set i (.im .none)) ρ1 fun ss ρ2 => (match ρ2[j]? with
    | some (.own l ds) => fnW n w (ss.set i (.own true ds)) (fun r ρc => match ρc[i]? with
      | some (.own true es) => Qd r (ρ2.set j (.own l es))
      | _ => False) fun _ => False
    | _ => False)
  | _ => False)) Qx
end Tr
namespace Tr
open PySem L2
theorem start_set {N : List Str} {vs : List V} {i : Nat} {v x : V} (h : vs[i]? = some v) : (L2.start N (vs.set i x)).set i (some v) = L2.start N vs := by
  have hi := (List.getElem?_eq_some_iff.mp h).1
  unfold L2.start
  rw [List.length_set, List.map_set, List.set_append_left _ _ (by rw [List.length_set, List.length_map]; exact hi), List.set_set]
  congr 1
  apply List.ext_getElem?
  intro k
  by_cases hk : i = k
  · subst hk
    rw [List.getElem?_set_self (by rw [List.length_map]; exact hi), List.getElem?_map, h]
    rfl
  · rw [List.getElem?_set_ne hk]
theorem sp_callM {c : Ct} {N : List Str} {np i j : Nat} {w : WS} {G H : Hp} {σ : L2.St} {ρ : Rn} {vs : List V} {rs : List R} {Qd : R → Rn → Prop} {Q : VK} (hnp : np ≤ N.length) (rl : Rel c.K c.pa c.le G H σ ρ) (rr : RRs c.K c.pa G H σ ρ vs rs) (hl : rs.length = np) (hi : rs[i]? = some (.sl j))
    (q : fzp (rs.set i (.im .none)) ρ fun ss ρ2 => (match ρ2[j]? with
      | some (.own l ds) => fnW N.length w (ss.set i (.own true ds)) (fun r ρc => match ρc[i]? with
        | some (.own true es) => Qd r (ρ2.set j (.own l es))
        | _ => False) fun _ => False
      | _ => False)) (hQ : Got c G H σ ρ Qd Q) : spT c.K c.mg N np w vs H Q E0 := by
  have hil : i < np := by rw [← hl]; exact (List.getElem?_eq_some_iff.mp hi).1
  have hlv : vs.length = np := by rw [Paired.len' rr, hl]
  obtain ⟨v0, hv0, hr0⟩ := paired_get rr hi
  have hs0 : σ[j]? = some (some v0) := hr0.2
  have rr' : RRs c.K c.pa G H σ ρ (vs.set i V.non) (rs.set i (.im .none)) := paired_set ⟨trivial, .non⟩ i rr
  obtain ⟨G1, ss, ρ2, n1, hh, q1⟩ := fzp_ok rl rr' q
  cases ej : ρ2[j]? with
  | none => rw [ej] at q1; exact q1.elim
  | some s =>
    rw [ej] at q1
    cases s with
    | own l ds =>
      obtain ⟨ov, z1, a, us, z2, z3, z4, z5, _⟩ := n1.r.sl j _ ej
      rw [hs0] at z1
      cases z1
      cases z2
      have hle : (vs.set i V.non).length ≤ N.length := by rw [List.length_set, hlv]; exact hnp
      let le' : Le := fun k => if k = i then some a else none
      obtain ⟨rs', nown⟩ := rel_start (N := N) n1.r hh hle le'
      have hss : ss.length = np := by rw [← hh.length, List.length_set, hlv]
      have sep : ¬ PotAt c.pa a := n1.r.sep a ⟨j, l, ds, ej, hs0⟩
      obtain ⟨rl2, own2⟩ := Nw.store (i := i) (s := .own true ds) (x := some (.ref a)) rs' ⟨a, us, rfl, z3, z4, z5, fun _ => if_pos rfl⟩ fun l' es e => ⟨a, rfl, sep, fun k l2 d2 _ e2 e3 => nown a ⟨k, l2, d2, e2, e3⟩⟩
      rw [start_set hv0, List.set_append_left _ _ (by rw [hss]; exact hil)] at rl2 own2
      rw [show N.length - ss.length = N.length - (ss.set i (Sl.own true ds)).length by rw [List.length_set]] at rl2 own2
      have only : ∀ b, Own (L2.start N vs) (ss.set i (.own true ds) ++ List.replicate (N.length - (ss.set i (Sl.own true ds)).length) .no) b → b = a := fun b hb => by
        rcases own2 b hb with z | ⟨z, _⟩
        · rw [List.length_set] at z
          exact (nown b z).elim
        · cases z; rfl
      have hlea : le' i = some a := if_pos rfl
      have cont : ∀ v r σ' ρ' G' H', Nw c.K c.pa le' G1 H (L2.start N vs) (ss.set i (.own true ds) ++ List.replicate (N.length - (ss.set i (Sl.own true ds)).length) .no) G' H' σ' ρ' → RR c.K c.pa G' H' σ' ρ' v r → Frs H (L2.start N vs) (ss.set i (.own true ds) ++ List.replicate (N.length - (ss.set i (Sl.own true ds)).length) .no) v r → (∀ k, r ≠ .sl k) →
          (match ρ'[i]? with
            | some (.own true es) => Qd r (ρ2.set j (.own l es))
            | _ => False) → Q v H' := fun v r σ' ρ' G' H' n2 rr2 fr2 hns q2 => by
        cases ei : ρ'[i]? with
        | none => rw [ei] at q2; exact q2.elim
        | some s =>
          rw [ei] at q2
          cases s with
          | own l3 es =>
            cases l3 with
            | false => exact q2.elim
            | true =>
              obtain ⟨nb, oa⟩ := nw_backM n1.r ej hs0 only n2 ei hlea
              refine hQ v r (ρ2.set j (.own l es)) G' H' (n1.trans rl nb) ?_ ?_ q2
              · cases r with
                | im d => exact rr2
                | pot => exact rr2
                | sl k => exact (hns k rfl).elim
                | dead => trivial
                | tm ds2 =>
                  obtain ⟨b, ws, rfl, g, hh2, ra, no2, np2⟩ := rr2
                  refine ⟨b, ws, rfl, g, hh2, ra, fun z => ?_, np2⟩
                  rcases nb.o b z with y | y
                  · rcases fr2 b rfl with x | x
                    · exact (n1.r.owT y).1 x
                    · rw [only b x] at no2
                      exact no2 oa
                  · rcases fr2 b rfl with x | x
                    · obtain ⟨k, l5, d5, f1, f2⟩ := z
                      by_cases hk : j = k
                      · subst hk
                        rw [hs0] at f2
                        cases f2
                        exact no2 oa
                      · rw [List.getElem?_set_ne hk] at f1
                        exact (n1.r.owT ⟨k, l5, d5, f1, f2⟩).1 x
                    · rw [only b x] at no2
                      exact no2 oa
              · cases r with
                | dead => trivial
                | tm ds2 =>
                  intro b e
                  rcases fr2 b e with y | y
                  · exact .inl y
                  · obtain ⟨b2, ws, e2, _, _, _, no2, _⟩ := rr2
                    rw [e] at e2
                    cases e2
                    rw [only b y] at no2
                    exact (no2 oa).elim
                | im d => trivial
                | pot => trivial
                | sl k => trivial
          | _ => exact q2.elim
      refine ⟨hlv, c.pa, le', G1, _, _, rl2, q1.run, fun σ' ρ' G' H' n2 q2 => ?_, fun v r σ' ρ' G' H' n2 rr2 fr2 q2 => ?_, fun _ _ _ _ _ z => z.elim, fun _ _ _ _ _ z => z.elim, fun _ _ _ _ _ _ _ _ _ z => z.elim⟩
      · exact cont .non (.im .none) σ' ρ' G' H' n2 .non trivial (fun k z => nomatch z) q2
      · cases r with
        | sl k => exact q2.elim
        | im d => exact cont v _ σ' ρ' G' H' n2 rr2 fr2 (fun k z => nomatch z) q2
        | tm ds2 => exact cont v _ σ' ρ' G' H' n2 rr2 fr2 (fun k z => nomatch z) q2
        | dead => exact cont v _ σ' ρ' G' H' n2 rr2 fr2 (fun k z => nomatch z) q2
        | pot => exact cont v _ σ' ρ' G' H' n2 rr2 fr2 (fun k z => nomatch z) q2
    | _ => exact q1.elim
section
variable {X : Cx} {c : Ct} {k n np i : Nat} {x : Str} {ps : List Str} {tw : WS} {p pos : Pos} {e : Expr} {es : List Expr} {ws : WA}
theorem d_fnM (F : Fk X.prog X.w X.K X.mg X.base k x ps n tw) (hK : X.K = c.K) (hM : X.mg = c.mg) (hr : Rm k X.A) (hg : Gl X x) (ha : DA X c (e :: es) ws) (hdb : (x == ("__debug__" : Str)) = false := by decide)
    (he : starEach (e :: es) X.env = (false, eval e X.env) :: starEach es X.env := by rfl) (hpl : (backTo pos (starEach es X.env)).any (·.1) = false := by rfl) (hnp : ps.length = np := by rfl) : DE X c (.Call (.Name x p) (e :: es) [] pos) (wCallM n np i tw ws) := by
  subst hnp
  obtain ⟨f, fd, N, rfl, hp, F, h1, h2, h3, h4⟩ := F
  refine PEw (pe_callG F hr hg h1 h2 h3 .nil (E := E0) pass0 ha hdb he hpl) fun σ H Q ⟨G, ρ, Qd, Qx, rl, hw, hQ, hX⟩ => ?_
  refine ⟨G, ρ, _, Qx, rl, hw, fun vs rs ρ1 G1 H1 n1 rr q => ?_, hX⟩
  obtain ⟨hl, q⟩ := q
  rw [List.append_nil, hK, hM]
  cases ei : rs[i]? with
  | none => rw [ei] at q; exact q.elim
  | some r =>
    rw [ei] at q
    cases r with
    | sl j => exact sp_callM hp n1.r rr hl ei q fun v r ρ' G' H' n2 rr2 fr2 q2 => hQ v r ρ' G' H' (n1.trans rl n2) rr2 (fr2.trans n1) q2
    | _ => exact q.elim
end
end Tr


namespace Tr
open PySem L2

/-! ### loops by an invariant -/
theorem wLoop_inv0 {g : WG} {tb : WS} {P : Po} : ∀ (ds : List D) (I : Nat → Rn → Prop) {ρ : Rn}, I 0 ρ →
    (∀ (i : Nat) (d : D) (ρ : Rn) (N : Rn → Prop), ds[i]? = some d → I i ρ → (∀ ρ', I (i + 1) ρ' → N ρ') → g d ρ (fun ρ1 => tb { P with nx := N, ct := N, bk := P.nx } ρ1) P.ex) →
    (∀ ρ, I ds.length ρ → P.nx ρ) → wLoop g tb ds P ρ
  | [], _, ρ, h0, _, hd => hd ρ h0
  | d :: ds, I, ρ, h0, hs, hd => hs 0 d ρ _ rfl h0 fun ρ' h1 => wLoop_inv0 ds (fun i => I (i + 1)) h1 (fun i e ρ N he hi hN => hs (i + 1) e ρ N he hi hN) fun ρ h => hd ρ h
theorem wCmp_inv0 {vs : List Nat} {g : WG} {t : WT} {we : WE} {Q : List D → Rn → Prop} : ∀ (ds : List D) (I : Nat → List D → Rn → Prop) {acc : List D} {ρ : Rn}, I 0 acc ρ →
    (∀ (i : Nat) (d : D) (acc : List D) (ρ : Rn) (N : List D → Rn → Prop), ds[i]? = some d → I i acc ρ → (∀ acc' ρ', I (i + 1) acc' ρ' → N acc' ρ') →
      g d (wipeR vs ρ) (fun ρ1 => t ρ1 (fun k ρ2 => IfW k (we ρ2 (fun r ρ3 => fz r ρ3 fun y ρ4 => acc.length < 100000 ∧ N (acc ++ [y]) ρ4) (fun _ => False)) (N acc ρ2)) fun _ => False) fun _ => False) →
    (∀ acc ρ, I ds.length acc ρ → Q acc ρ) → wCmp vs g t we ds acc ρ Q
  | [], _, acc, ρ, h0, _, hd => hd acc ρ h0
  | d :: ds, I, acc, ρ, h0, hs, hd => hs 0 d acc ρ (fun acc ρ => wCmp vs g t we ds acc ρ Q) rfl h0 fun acc' ρ' h1 => wCmp_inv0 ds (fun i => I (i + 1)) h1 (fun i e a ρ N he hi hN => hs (i + 1) e a ρ N he hi hN) fun a ρ h => hd a ρ h
theorem wLoop_inv {g : WG} {tb : WS} {P : Po} (ds : List D) (I : Nat → Rn → Prop) {ρ : Rn} (h0 : I 0 ρ)
    (hs : ∀ (i : Nat) (d : D) (ρ : Rn) (N : Rn → Prop), ds[i]? = some d → I i ρ → (∀ ρ', I (i + 1) ρ' → N ρ') → g d ρ (fun ρ1 => tb { P with nx := N, ct := N, bk := P.nx } ρ1) P.ex)
    (hd : ∀ ρ, I ds.length ρ → P.nx ρ) : LoopW g tb ds P ρ := ⟨wLoop_inv0 ds I h0 hs hd⟩
theorem wCmp_inv {vs : List Nat} {g : WG} {t : WT} {we : WE} {Q : List D → Rn → Prop} (ds : List D) (I : Nat → List D → Rn → Prop) {ρ : Rn} (h0 : I 0 [] ρ)
    (hs : ∀ (i : Nat) (d : D) (acc : List D) (ρ : Rn) (N : List D → Rn → Prop), ds[i]? = some d → I i acc ρ → (∀ acc' ρ', I (i + 1) acc' ρ' → N acc' ρ') →
      g d (wipeR vs ρ) (fun ρ1 => t ρ1 (fun k ρ2 => IfW k (we ρ2 (fun r ρ3 => fz r ρ3 fun y ρ4 => acc.length < 100000 ∧ N (acc ++ [y]) ρ4) (fun _ => False)) (N acc ρ2)) fun _ => False) fun _ => False)
    (hd : ∀ acc ρ, I ds.length acc ρ → Q acc ρ) : CmpW vs g t we ds ρ Q := ⟨wCmp_inv0 ds I h0 hs hd⟩
/-- each item gives its own value, nothing else changes -/
theorem wCmp_map {vs : List Nat} {g : WG} {we : WE} {Q : List D → Rn → Prop} (ds : List D) (f : D → D) {ρ : Rn} (hl : ds.length ≤ 100000)
    (hs : ∀ (d : D) (N : D → Rn → Prop) (M : Rn → Prop), d ∈ ds → (∀ ρ', wipeR vs ρ' = wipeR vs ρ → N (f d) ρ') → g d (wipeR vs ρ) (fun ρ1 => IfW true (we ρ1 (fun r ρ3 => fz r ρ3 N) (fun _ => False)) (M ρ1)) fun _ => False)
    (hd : ∀ ρ', wipeR vs ρ' = wipeR vs ρ → Q (ds.map f) ρ') : CmpW vs g wYes we ds ρ Q := by
  refine wCmp_inv ds (fun i acc ρ' => acc = (ds.map f).take i ∧ i ≤ ds.length ∧ wipeR vs ρ' = wipeR vs ρ) ⟨rfl, Nat.zero_le _, rfl⟩ (fun i d acc ρ1 N he ⟨ha, hi, hw⟩ hN => ?_) fun acc ρ1 ⟨ha, _, hw⟩ => ?_
  · have hlt := (List.getElem?_eq_some_iff.mp he).1
    rw [hw]
    refine hs d (fun y ρ4 => acc.length < 100000 ∧ N (acc ++ [y]) ρ4) (fun ρ2 => N acc ρ2) (List.mem_of_getElem? he) fun ρ' h => ⟨?_, hN _ _ ⟨?_, hlt, h⟩⟩
    · rw [ha, List.length_take, List.length_map]
      omega
    · rw [ha, List.take_add_one, List.getElem?_map, he]
      rfl
  · subst ha
    rw [List.take_of_length_le (by rw [List.length_map]; exact Nat.le_refl _)]
    exact hd ρ1 hw
theorem wWh_inv {t : WT} {tb : WS} {P : Po} (I : Nat → Rn → Prop)
    (hs : ∀ (m : Nat) (ρ : Rn) (N : Rn → Prop), I m ρ → (∀ m' ρ', m' < m → I m' ρ' → N ρ') → t ρ (fun k ρ1 => IfW k (tb { P with nx := N, ct := N, bk := P.nx } ρ1) (P.nx ρ1)) P.ex) :
    ∀ (n m : Nat) (ρ : Rn), m < n → I m ρ → wWh t tb n P ρ
  | 0, m, ρ, hm, _ => absurd hm (Nat.not_lt_zero m)
  | n + 1, m, ρ, hm, hi => hs m ρ (wWh t tb n P) hi fun m' ρ' h1 h2 => wWh_inv I hs n m' ρ' (by omega) h2
theorem wWhile_inv {t : WT} {tb : WS} {P : Po} {ρ : Rn} (I : Nat → Rn → Prop) (m : Nat) (h0 : I m ρ)
    (hs : ∀ (m : Nat) (ρ : Rn) (N : Rn → Prop), I m ρ → (∀ m' ρ', m' < m → I m' ρ' → N ρ') → t ρ (fun k ρ1 => IfW k (tb { P with nx := N, ct := N, bk := P.nx } ρ1) (P.nx ρ1)) P.ex) : wWhile t tb P ρ :=
  ⟨m + 1, wWh_inv I hs (m + 1) m ρ (Nat.lt_succ_self m) h0⟩
/-- a def's call drawn from: the number is any below n -/
theorem of_ok {n : Int} {Qd : R → Rn → Prop} {Qx : Xn → Prop} (hn : n < 4611686018427387904) (h : ∀ r, Dr n r → ∀ ρ, Qd (.im (.int r)) ρ) : fnW 4 wOf [.pot, .im (.int n)] Qd Qx :=
  ⟨show 3 < 4 by decide, n, rfl, rfl, hn, fun r hr ρ' => h r hr ρ'⟩

/-! ### data -/
/-- a row of numbers -/
def tI (p : List Int) : D := .tuple (p.map PyData.int)
def lI (p : List Int) : D := .list (p.map PyData.int)
/-- small data: at most b parts, at most k deep -/
structure Fit (b k : Nat) (d : D) : Prop where
  lv : PyData.leavesShort 40 d = true
  sh : d.showable = true
  cl : d.canLay0 = true
  bk : d.bulk ≤ b
  dp : d.depth ≤ k
theorem Fit.rpr {b k : Nat} {d : D} (h : Fit b k d) (hb : b ≤ 300000) (hk : k ≤ 64) : Rpr d :=
  ⟨h.sh, PyData.hasDict_of_canLay d h.cl, Nat.le_trans h.dp hk, by
    have e := PyData.shown_le_bulk 40 (by decide) d h.lv
    have := h.bk
    omega⟩
theorem Fit.shp {b k : Nat} {d : D} (h : Fit b k d) (hk : k ≤ 64) : Shp d := by
  refine ⟨?_, PyData.hasDict_of_canLay d h.cl⟩
  unfold SeqAt.shaped
  rw [h.cl, Bool.true_and, decide_eq_true_eq]
  exact Nat.le_trans h.dp hk
theorem Fit.mono {b b' k k' : Nat} {d : D} (h : Fit b k d) (hb : b ≤ b') (hk : k ≤ k') : Fit b' k' d := ⟨h.lv, h.sh, h.cl, Nat.le_trans h.bk hb, Nat.le_trans h.dp hk⟩
theorem Fit.none {b k : Nat} : Fit b k .none := ⟨rfl, rfl, rfl, Nat.zero_le _, Nat.zero_le _⟩
theorem Fit.bool {b k : Nat} {z : Bool} : Fit b k (.bool z) := ⟨rfl, rfl, rfl, Nat.zero_le _, Nat.zero_le _⟩
theorem Fit.int {b k : Nat} {i : Int} (h : i.natAbs < 10 ^ 30) : Fit b k (.int i) := by
  refine ⟨?_, ?_, rfl, Nat.zero_le _, Nat.zero_le _⟩
  · unfold PyData.leavesShort
    rw [decide_eq_true_eq]
    show (Str.ofString (toString i)).length ≤ 40
    rw [ofString_length]
    exact Nat.le_trans (int_text_length_le10 (by decide) h) (by decide)
  · unfold PyData.showable
    rw [decide_eq_true_eq]
    by_cases z : i.natAbs = 0
    · rw [z]
      decide
    · exact Nat.log2_lt z |>.mpr (Nat.lt_of_lt_of_le h (by decide +kernel))
theorem Fit.str {b k : Nat} {x : Str} (h : PyData.strOk x = true) (hb : x.cps.size ≤ b) : Fit b k (.str x) := by
  have cl : (PyData.str x).canLay0 = true := by simpa only [PyData.canLay0] using h
  exact ⟨PyData.leavesShort_of_canLay0 40 (.str x) cl rfl, rfl, cl, by simpa only [PyData.bulk] using hb, Nat.zero_le _⟩
theorem fitAll {b k : Nat} : ∀ {ds : List D}, (∀ d ∈ ds, Fit b k d) → PyData.leavesShortAll 40 ds = true ∧ PyData.showableAll ds = true ∧ PyData.canLayAll0 ds = true ∧ PyData.bulkAll ds ≤ ds.length * (b + 1) ∧ PyData.depthAll ds ≤ k
  | [], _ => ⟨rfl, rfl, rfl, Nat.zero_le _, Nat.zero_le _⟩
  | d :: ds, h => by
    obtain ⟨h1, h2, h3, h4, h5⟩ := fitAll fun e he => h e (List.mem_cons_of_mem _ he)
    have hd := h d List.mem_cons_self
    refine ⟨?_, ?_, ?_, ?_, ?_⟩
    · rw [PyData.leavesShortAll, hd.lv, h1]
      rfl
    · rw [PyData.showableAll, hd.sh, h2]
      rfl
    · rw [PyData.canLayAll0, hd.cl, h3]
      rfl
    · rw [PyData.bulkAll, List.length_cons, Nat.add_mul]
      have := hd.bk
      omega
    · rw [PyData.depthAll]
      exact Nat.max_le.mpr ⟨hd.dp, h5⟩
theorem Fit.list {b k b' k' : Nat} {ds : List D} (h : ∀ d ∈ ds, Fit b k d) (hb : ds.length * (b + 1) ≤ b') (hk : k + 1 ≤ k') : Fit b' k' (.list ds) := by
  obtain ⟨h1, h2, h3, h4, h5⟩ := fitAll h
  exact ⟨by rw [PyData.leavesShort]; exact h1, by rw [PyData.showable]; exact h2, by rw [PyData.canLay0]; exact h3, by rw [PyData.bulk]; exact Nat.le_trans h4 hb, by rw [PyData.depth]; omega⟩
theorem Fit.tuple {b k b' k' : Nat} {ds : List D} (h : ∀ d ∈ ds, Fit b k d) (hb : ds.length * (b + 1) ≤ b') (hk : k + 1 ≤ k') : Fit b' k' (.tuple ds) := by
  obtain ⟨h1, h2, h3, h4, h5⟩ := fitAll h
  exact ⟨by rw [PyData.leavesShort]; exact h1, by rw [PyData.showable]; exact h2, by rw [PyData.canLay0]; exact h3, by rw [PyData.bulk]; exact Nat.le_trans h4 hb, by rw [PyData.depth]; omega⟩
theorem fit_ints {b k : Nat} {p : List Int} (h : ∀ x ∈ p, x.natAbs < 10 ^ 30) : ∀ d ∈ p.map PyData.int, Fit b k d := fun d hd => by
  obtain ⟨x, hx, rfl⟩ := List.mem_map.mp hd
  exact .int (h x hx)
theorem Fit.tI {b k : Nat} {p : List Int} (h : ∀ x ∈ p, x.natAbs < 10 ^ 30) (hb : p.length ≤ b) (hk : 1 ≤ k) : Fit b k (tI p) :=
  .tuple (b := 0) (k := 0) (fit_ints h) (by rw [List.length_map]; omega) hk
theorem Fit.lI {b k : Nat} {p : List Int} (h : ∀ x ∈ p, x.natAbs < 10 ^ 30) (hb : p.length ≤ b) (hk : 1 ≤ k) : Fit b k (lI p) :=
  .list (b := 0) (k := 0) (fit_ints h) (by rw [List.length_map]; omega) hk
/-- the same text is the same text -/
theorem eqv_str (x : Str) : PyData.eqv (.str x) (.str x) = true := by
  show (x == x) = true
  exact beq_self_eq_true x
end Tr
namespace Tr
open PySem L2
theorem hasDict_ints : ∀ ns : List Int, PyData.hasDictAll (ns.map PyData.int) = false
  | [] => rfl
  | _ :: ns => by
    show (PyData.hasDict (.int _) || PyData.hasDictAll (ns.map PyData.int)) = false
    rw [hasDict_ints ns]
    rfl
theorem shp_lI (ns : List Int) : Shp (.list (ns.map PyData.int)) := ⟨PySem.W.shaped_ints ns, by rw [PyData.hasDict]; exact hasDict_ints ns⟩
theorem shp_tI (ns : List Int) : Shp (.tuple (ns.map PyData.int)) := by
  refine ⟨?_, by rw [PyData.hasDict]; exact hasDict_ints ns⟩
  have h := PySem.W.shaped_ints ns
  unfold SeqAt.shaped at h ⊢
  simp only [PyData.canLay0, PyData.depth] at h ⊢
  exact h
theorem shp_int (i : Int) : Shp (.int i) := ⟨rfl, rfl⟩
theorem shp_bool (b : Bool) : Shp (.bool b) := ⟨rfl, rfl⟩
theorem shp_none : Shp .none := ⟨rfl, rfl⟩
theorem shp_nil : Shp (.list []) := ⟨rfl, rfl⟩
theorem shp_tnil : Shp (.tuple []) := ⟨rfl, rfl⟩
theorem eqvAll_ints : ∀ a b : List Int, PyData.eqvAll (a.map PyData.int) (b.map PyData.int) = decide (a = b)
  | [], [] => rfl
  | [], _ :: _ => rfl
  | _ :: _, [] => rfl
  | x :: a, y :: b => by
    show ((x == y) && PyData.eqvAll (a.map PyData.int) (b.map PyData.int)) = _
    rw [eqvAll_ints a b, Bool.eq_iff_iff]
    simp
theorem eqv_lI (a b : List Int) : PyData.eqv (.list (a.map PyData.int)) (.list (b.map PyData.int)) = decide (a = b) := by rw [PyData.eqv]; exact eqvAll_ints a b
theorem eqv_tI (a b : List Int) : PyData.eqv (.tuple (a.map PyData.int)) (.tuple (b.map PyData.int)) = decide (a = b) := by rw [PyData.eqv]; exact eqvAll_ints a b
theorem eqv_lnil (a : List Int) : PyData.eqv (.list (a.map PyData.int)) (.list []) = decide (a = []) := eqv_lI a []
/-- ints to ints -/
def onInt (f : Int → Int) : D → D
  | .int x => .int (f x)
  | d => d
theorem onInt_map (f : Int → Int) (p : List Int) : (p.map PyData.int).map (onInt f) = (p.map f).map PyData.int := by
  rw [List.map_map, List.map_map]
  rfl
theorem wCmp_ints {vs : List Nat} {g : WG} {we : WE} {Q : List D → Rn → Prop} (p : List Int) (f : Int → Int) {ρ : Rn} (hl : p.length ≤ 100000)
    (hs : ∀ (x : Int) (N : D → Rn → Prop) (M : Rn → Prop), x ∈ p → (∀ ρ', wipeR vs ρ' = wipeR vs ρ → N (.int (f x)) ρ') → g (.int x) (wipeR vs ρ) (fun ρ1 => IfW true (we ρ1 (fun r ρ3 => fz r ρ3 N) (fun _ => False)) (M ρ1)) fun _ => False)
    (hd : ∀ ρ', wipeR vs ρ' = wipeR vs ρ → Q ((p.map f).map PyData.int) ρ') : CmpW vs g wYes we (p.map PyData.int) ρ Q := by
  refine wCmp_map _ (onInt f) (by rw [List.length_map]; exact hl) (fun d N M hd hN => ?_) fun ρ' hw => ?_
  · obtain ⟨x, hx, rfl⟩ := List.mem_map.mp hd
    exact hs x N M hx hN
  · rw [onInt_map]
    exact hd ρ' hw
theorem ints_get {p : List Int} {i : Nat} {d : D} (h : (p.map PyData.int)[i]? = some d) : ∃ x, p[i]? = some x ∧ d = .int x := by
  rw [List.getElem?_map] at h
  cases e : p[i]? with
  | none => rw [e] at h; cases h
  | some x => rw [e] at h; cases h; exact ⟨x, rfl, rfl⟩
theorem repl_one (n : Nat) (d : D) : (List.replicate n [d]).flatten = List.replicate n d := by
  induction n with
  | zero => rfl
  | succ n ih => rw [List.replicate_succ, List.flatten_cons, ih]; rfl
theorem repl_int (n : Nat) (i : Int) : List.replicate n (PyData.int i) = (List.replicate n i).map PyData.int := by rw [List.map_replicate]
theorem ixN_nat {n i : Nat} (h : i < n) : ixN n (i : Int) = some i := by
  unfold ixN
  rw [if_pos (by omega), if_pos (by omega)]
  rfl
theorem ixN_int {n : Nat} {i : Int} (h0 : 0 ≤ i) (h : i < n) : ixN n i = some i.toNat := by
  unfold ixN
  rw [if_pos h0, if_pos h]

/-! ### rows -/
def IsRow (p : List Int) : Prop := p.Perm ((List.range p.length).map Int.ofNat)
theorem IsRow.mem {p : List Int} (h : IsRow p) {x : Int} : x ∈ p ↔ 0 ≤ x ∧ x < p.length := by
  rw [h.mem_iff, List.mem_map]
  constructor
  · rintro ⟨n, hn, rfl⟩
    have := List.mem_range.mp hn
    exact ⟨Int.natCast_nonneg n, by exact Int.ofNat_lt.mpr this⟩
  · rintro ⟨h0, h1⟩
    exact ⟨x.toNat, List.mem_range.mpr (by omega), Int.toNat_of_nonneg h0⟩
theorem IsRow.nodup {p : List Int} (h : IsRow p) : p.Nodup := by
  refine h.nodup_iff.mpr ?_
  rw [List.Nodup, List.pairwise_map]
  exact List.Pairwise.imp (fun h e => h (Int.ofNat.inj e)) List.nodup_range
theorem IsRow.of_perm {p q : List Int} (h : IsRow p) (e : q.Perm p) : IsRow q := by
  unfold IsRow
  rw [e.length_eq]
  exact e.trans h
theorem isRow_range (n : Nat) : IsRow ((List.range n).map Int.ofNat) := by
  unfold IsRow
  rw [List.length_map, List.length_range]
theorem IsRow.bound {p : List Int} (h : IsRow p) (hl : p.length ≤ 1000) : ∀ x ∈ p, x.natAbs < 10 ^ 30 := fun x hx => by
  have := h.mem.mp hx
  have e : (10 : Nat) ^ 30 = 1000000000000000000000000000000 := by decide
  omega
theorem range_sum (m n : Nat) : (List.range (m + n)).map Int.ofNat = (List.range m).map Int.ofNat ++ ((List.range n).map Int.ofNat).map (fun x => x + (m : Int)) := by
  rw [List.range_add, List.map_append, List.map_map, List.map_map]
  congr 1
  apply List.map_congr_left
  intro a _
  show Int.ofNat (m + a) = Int.ofNat a + (m : Int)
  simp [Int.add_comm]
end Tr
namespace Tr
open PySem L2
theorem nodup_get {α : Type} {l : List α} (h : l.Nodup) {i j : Nat} {x : α} (hi : l[i]? = some x) (hj : l[j]? = some x) : i = j :=
  (List.getElem?_inj (List.getElem?_eq_some_iff.mp hi).1 h).mp (hi.trans hj.symm)
/-- an item taken out, put in front -/
theorem perm_erase {α : Type} : ∀ (l : List α) (i : Nat) (x : α), l[i]? = some x → (x :: l.eraseIdx i).Perm l
  | [], _, _, h => by simp at h
  | a :: l, 0, x, h => by
    simp at h
    subst h
    exact List.Perm.refl _
  | a :: l, i + 1, x, h => by
    have ih := perm_erase l i x (by simpa using h)
    rw [List.eraseIdx_cons_succ]
    exact (List.Perm.swap a x _).trans (ih.cons a)
theorem map_eraseIdx {α β : Type} (f : α → β) : ∀ (l : List α) (i : Nat), (l.map f).eraseIdx i = (l.eraseIdx i).map f
  | [], _ => rfl
  | _ :: _, 0 => rfl
  | a :: l, i + 1 => by
    rw [List.map_cons, List.eraseIdx_cons_succ, List.eraseIdx_cons_succ, List.map_cons, map_eraseIdx f l i]
/-- two neighbours exchanged -/
theorem perm_swap_at {α : Type} : ∀ (l : List α) (i : Nat) (x y : α), l[i]? = some x → l[i + 1]? = some y → ((l.set i y).set (i + 1) x).Perm l
  | [], _, _, _, h, _ => by simp at h
  | [a], 0, _, _, _, h => by simp at h
  | a :: b :: l, 0, x, y, h1, h2 => by
    simp at h1 h2
    subst h1 h2
    exact List.Perm.swap _ _ _
  | a :: l, i + 1, x, y, h1, h2 => by
    rw [List.set_cons_succ, List.set_cons_succ]
    exact (perm_swap_at l i x y (by simpa using h1) (by simpa using h2)).cons a
theorem rangeD_ints (lo hi : Int) : rangeD lo hi = ((List.range (hi - lo).toNat).map fun i : Nat => lo + (i : Int)).map PyData.int := by
  unfold rangeD
  rw [List.map_map]
  rfl
theorem rangeD_zero (n : Nat) : rangeD 0 n = ((List.range n).map Int.ofNat).map PyData.int := by
  rw [rangeD_ints, Int.sub_zero, Int.toNat_natCast]
  congr 1
  apply List.map_congr_left
  intro i _
  exact Int.zero_add _
end Tr
namespace Tr
theorem seq_in {t u : WS} {P : Po} {ρ : Rn} (h : ∀ K : Rn → Prop, K = u P → t { P with nx := K } ρ) : wSeq t u P ρ := h _ rfl
end Tr
namespace Tr
open PySem L2
theorem atI_int {α : Type} {l : List α} {i : Int} {x : α} (h0 : 0 ≤ i) (h : l[i.toNat]? = some x) : atI l i = some x := by
  have hl := (List.getElem?_eq_some_iff.mp h).1
  unfold atI
  rw [ixN_int h0 (by omega)]
  exact h
theorem atI_ints {p : List Int} {i x : Int} (h0 : 0 ≤ i) (h : p[i.toNat]? = some x) : atI (p.map PyData.int) i = some (.int x) := atI_int h0 (by rw [List.getElem?_map, h]; rfl)
end Tr
namespace Tr
open PySem L2
theorem scrOf_ints (ns : List Int) : scrOf [(.none, .list (ns.map PyData.int))] = some ns := intsOf_ints ns
theorem cutD_take (ds : List D) (k : Int) (h : (ds.length : Int) ≤ k) : cutD ds none (some k) = ds := by
  obtain ⟨n, rfl⟩ : ∃ n : Nat, k = n := ⟨k.toNat, by omega⟩
  unfold cutD
  rw [HT.sIx_none, show HT.sIx ds.length ds.length (some (n : Int)) = min n ds.length from HT.sIx_nat ds.length ds.length n, Nat.min_eq_right (by omega)]
  simp
/-- ints that pass, each its own value -/
theorem wCmp_filter {vs : List Nat} {g : WG} {t : WT} {we : WE} {Q : List D → Rn → Prop} (p : List Int) (f : Int → Bool) {ρ : Rn} (hl : p.length ≤ 100000)
    (hs : ∀ (x : Int) (N : D → Rn → Prop) (M : Rn → Prop), x ∈ p → (f x = true → ∀ ρ', wipeR vs ρ' = wipeR vs ρ → N (.int x) ρ') → (f x = false → ∀ ρ', wipeR vs ρ' = wipeR vs ρ → M ρ') →
      g (.int x) (wipeR vs ρ) (fun ρ1 => t ρ1 (fun k ρ2 => IfW k (we ρ2 (fun r ρ3 => fz r ρ3 N) (fun _ => False)) (M ρ2)) fun _ => False) fun _ => False)
    (hd : ∀ ρ', wipeR vs ρ' = wipeR vs ρ → Q ((p.filter f).map PyData.int) ρ') : CmpW vs g t we (p.map PyData.int) ρ Q := by
  refine wCmp_inv _ (fun i acc ρ' => acc = ((p.take i).filter f).map PyData.int ∧ wipeR vs ρ' = wipeR vs ρ) ⟨rfl, rfl⟩ (fun i d acc ρ1 N he ⟨ha, hw⟩ hN => ?_) fun acc ρ1 ⟨ha, hw⟩ => ?_
  · obtain ⟨x, hx, rfl⟩ := ints_get he
    have ht : p.take (i + 1) = p.take i ++ [x] := by rw [List.take_add_one, hx]; rfl
    rw [hw]
    refine hs x (fun y ρ4 => acc.length < 100000 ∧ N (acc ++ [y]) ρ4) (fun ρ2 => N acc ρ2) (List.mem_of_getElem? hx) (fun hf ρ' h => ⟨?_, hN _ _ ⟨?_, h⟩⟩) fun hf ρ' h => hN _ _ ⟨?_, h⟩
    · have h1 : ((p.take i).filter f).length ≤ (p.take i).length := List.length_filter_le _ _
      have h2 := (List.getElem?_eq_some_iff.mp hx).1
      rw [List.length_take] at h1
      rw [ha, List.length_map]
      omega
    · rw [ha, ht, List.filter_append, List.map_append, List.filter_cons_of_pos hf]
      rfl
    · rw [ha, ht, List.filter_append, List.filter_cons_of_neg (by rw [hf]; decide)]
      simp
  · subst ha
    rw [List.length_map, List.take_length]
    exact hd ρ1 hw
end Tr
namespace Tr
theorem if_hid {b : Bool} {A B : Prop} (h1 : b = true → A) (h2 : b = false → B) : IfW (hid b) A B := by
  rw [hid_eq]
  exact ⟨h1, h2⟩
theorem if_dec {p : Prop} [Decidable p] {A B : Prop} (h1 : p → A) (h2 : ¬ p → B) : IfW (hid (decide p)) A B :=
  if_hid (fun h => h1 (of_decide_eq_true h)) fun h => h2 (of_decide_eq_false h)
theorem if_ndec {p : Prop} [Decidable p] {A B : Prop} (h1 : ¬ p → A) (h2 : p → B) : IfW (hid (!decide p)) A B :=
  if_hid (fun h => h1 (of_decide_eq_false (by simpa using h))) fun h => h2 (of_decide_eq_true (by simpa using h))
theorem if_yes {A B : Prop} (h : A) : IfW true A B := ⟨fun _ => h, fun z => (nomatch z)⟩
theorem if_no {A B : Prop} (h : B) : IfW false A B := ⟨fun z => (nomatch z), fun _ => h⟩
end Tr
namespace Tr
open PySem L2
theorem rangeD_get {lo hi : Int} {i : Nat} {d : D} (h : (rangeD lo hi)[i]? = some d) : d = .int (lo + (i : Int)) ∧ lo + (i : Int) < hi := by
  have hl := (List.getElem?_eq_some_iff.mp h).1
  rw [rangeD_len] at hl
  unfold rangeD at h
  rw [List.getElem?_map, List.getElem?_range hl] at h
  exact ⟨(Option.some.inj h).symm, by omega⟩
theorem rangeD_get0 {hi : Int} {i : Nat} {d : D} (h : (rangeD 0 hi)[i]? = some d) : d = .int (i : Int) ∧ (i : Int) < hi := by
  obtain ⟨h1, h2⟩ := rangeD_get h
  rw [Int.zero_add] at h1 h2
  exact ⟨h1, h2⟩
end Tr

namespace Tr
open PySem L2 PyProof.Rows

/-! ### ranges with a step, and ranges shown as a list or a tuple -/
def rangeN (i j k : Int) : Nat := (Builtin.Range.rangeSize i j k).toNat
def rangeS (i j k : Int) : List D := (List.range (rangeN i j k)).map fun m => .int (i + (m : Nat) * k)
theorem rangeS_len (i j k : Int) : (rangeS i j k).length = rangeN i j k := by unfold rangeS; rw [List.length_map, List.length_range]
structure RcOk (i j k : Int) : Prop where
  mk6 ::
  nz : k ≠ 0
  k1 : -1000000 ≤ k
  k2 : k ≤ 1000000
  i1 : -1000000000 ≤ i
  i2 : i ≤ 1000000000
  j1 : -1000000000 ≤ j
  j2 : j ≤ 1000000000
theorem div_le {a b : Int} (h : 0 ≤ a) (hb : 0 < b) : 0 ≤ a / b ∧ a / b ≤ a := ⟨Int.ediv_nonneg h (by omega), Int.ediv_le_self _ h⟩
theorem rsz {i j k : Int} (h : RcOk i j k) : 0 ≤ Builtin.Range.rangeSize i j k ∧ Builtin.Range.rangeSize i j k ≤ 2000000000 := by
  obtain ⟨h0, h1, h2, h3, h4, h5, h6⟩ := h
  unfold Builtin.Range.rangeSize
  split
  · split
    · have := div_le (a := j - i - 1) (b := k) (by omega) (by omega)
      omega
    · omega
  · split
    · have := div_le (a := i - j - 1) (b := -k) (by omega) (by omega)
      omega
    · omega
theorem RcOk.rgc {i j k : Int} (h : RcOk i j k) : RgC i j k (rangeN i j k) := by
  have hs := rsz h
  obtain ⟨h0, h1, h2, h3, h4, h5, h6⟩ := h
  refine ⟨h0, by omega, ?_, by unfold rangeN; rw [Int.toNat_of_nonneg hs.1]⟩
  unfold Builtin.Range.small
  by_cases hk : k > 0
  · simp only [Builtin.Range.rangeFitsLong, Bool.and_eq_true, Bool.or_eq_true, decide_eq_true_eq, beq_iff_eq, hk, if_true]
    omega
  · simp only [Builtin.Range.rangeFitsLong, Bool.and_eq_true, Bool.or_eq_true, decide_eq_true_eq, beq_iff_eq, hk, if_false]
    omega
theorem wk_rangeS {K : PySem.W.Frag} {G : Hp} {i j k : Int} : Wk false K (Itc i k (rangeN i j k)) (rangeS i j k) G := fun G1 H1 s1 s2 n => by
  refine ⟨fun d hd => ?_, fun e => by rw [rangeS_len] at e; rw [← e]; exact Nat.le_refl _⟩
  have hi' : n < rangeN i j k := by
    have := (List.getElem?_eq_some_iff.mp hd).1
    rw [rangeS_len] at this
    exact this
  refine ⟨hi', fun x H2 hy => .inl ⟨hy.1, ?_⟩⟩
  unfold rangeS at hd
  rw [List.getElem?_map, List.getElem?_range hi'] at hd
  cases hd
  rw [hy.2]
  exact .int _
section
variable {X : Cx} {c : Ct} {a b d e tg : Expr} {p pos : Pos}
def wRg3 (ws : WA) : Rn → (Int → Int → Int → Rn → Prop) → (Xn → Prop) → Prop := fun ρ Qd Qx => ws ρ (fun rs ρ1 => match rs with
  | [r, r', r''] => (match vw ρ1 r with
    | some (.int i) => (match vw ρ1 r' with
      | some (.int j) => (match vw ρ1 r'' with
        | some (.int k) => RcOk i j k ∧ Qd i j k ρ1
        | _ => False)
      | _ => False)
    | _ => False)
  | _ => False) Qx
theorem la_rg3 {ws : WA} {σ : L2.St} {H : Hp} {Q : List V → Hp → Prop} {G : Hp} {ρ : Rn} {Qd : Int → Int → Int → Rn → Prop} {Qx : Xn → Prop} (rl : Rel c.K c.pa c.le G H σ ρ) (hw : wRg3 ws ρ Qd Qx) (hX : LX c G H σ ρ Qx)
    (hQ : ∀ (i j k : Int) ρ' G' H', Nw c.K c.pa c.le G H σ ρ G' H' σ ρ' → RcOk i j k → Qd i j k ρ' → Q [.int i, .int j, .int k] H') : LA c ws σ H Q :=
  ⟨G, ρ, _, Qx, rl, hw, fun vs rs ρ1 G1 H1 n1 rr q => by
    rcases rr with _ | @⟨v, r, _, _, r1, rr⟩
    · exact q.elim
    rcases rr with _ | @⟨v', r', _, _, r2, rr⟩
    · exact q.elim
    rcases rr with _ | @⟨v'', r'', _, _, r3, rr⟩
    · exact q.elim
    rcases rr with _ | _
    · have q' : (match vw ρ1 r with
        | some (.int i) => (match vw ρ1 r' with
          | some (.int j) => (match vw ρ1 r'' with
            | some (.int k) => RcOk i j k ∧ Qd i j k ρ1
            | _ => False)
          | _ => False)
        | _ => False) := q
      cases e1 : vw ρ1 r with
      | none => rw [e1] at q'; exact q'.elim
      | some x =>
        rw [e1] at q'
        cases x with
        | int i =>
          cases e2 : vw ρ1 r' with
          | none => rw [e2] at q'; exact q'.elim
          | some x =>
            rw [e2] at q'
            cases x with
            | int j =>
              cases e3 : vw ρ1 r'' with
              | none => rw [e3] at q'; exact q'.elim
              | some x =>
                rw [e3] at q'
                cases x with
                | int k =>
                  have e4 := vw_int n1.r r1.2 e1
                  have e5 := vw_int n1.r r2.2 e2
                  have e6 := vw_int n1.r r3.2 e3
                  subst e4 e5 e6
                  exact hQ i j k ρ1 G1 H1 n1 q'.1 q'.2
                | _ => exact q'.elim
            | _ => exact q'.elim
        | _ => exact q'.elim
    · exact q.elim, hX⟩
def wiR3 (w : Rn → (Int → Int → Int → Rn → Prop) → (Xn → Prop) → Prop) : WI := fun ρ Qd Qx => w ρ (fun i j k ρ1 => Qd (rangeS i j k) ρ1) Qx
theorem d_iR3 {ws : WA} (hg : Gl X "range") (hm : X.mg "range" = none) (ha : DA X c [a, b, d] ws) (hs : starEach [a, b, d] X.env = (false, eval a X.env) :: starEach [b, d] X.env := by rfl) (hpl : (backTo pos (starEach [b, d] X.env)).any (·.1) = false := by rfl) : DI false X c tg (.Call (.Name "range" p) [a, b, d] [] pos) (wiR3 (wRg3 ws)) :=
  PIw (pi_range3 hg hm ha hs hpl) fun σ H R0 ⟨G, ρ, Qd, Qx, rl, hw, hQ, hX⟩ => la_rg3 rl hw hX fun i j k ρ' G' H' n h q => ⟨i, j, k, _, rfl, h.rgc, hQ _ ρ' G' H' _ n wk_rangeS q⟩
/-! as an argument -/
def PRg3 (X : Cx) (e : Expr) (t : L2.St → Hp → (Int → Int → Int → Hp → Prop) → Prop) : Prop :=
  ∀ (pins : List (Addr × Obj)) (s : Shared) (σ : L2.St) (H : Hp) (Q : Int → Int → Int → Hp → Prop), Inv X pins σ H s → t σ H Q →
    wpAny (model X.prog X.w) X.A (eval e X.env) (fun x s' => ∃ r a b c t u v H', x = .ref r ∧ IsRange s'.heap r a b c t u v ∧ Inv X pins σ H' s' ∧ Q a b c H') X.xe s
def tRgA1 (ta : TA) : L2.St → Hp → (Int → Int → Int → Hp → Prop) → Prop := fun σ H Q => ta σ H fun vs H1 => ∃ j, vs = [.int j] ∧ Q 0 j 1 H1
def tRgA2 (ta : TA) : L2.St → Hp → (Int → Int → Int → Hp → Prop) → Prop := fun σ H Q => ta σ H fun vs H1 => ∃ i j, vs = [.int i, .int j] ∧ Q i j 1 H1
def tRgA3 (ta : TA) : L2.St → Hp → (Int → Int → Int → Hp → Prop) → Prop := fun σ H Q => ta σ H fun vs H1 => ∃ i j k, vs = [.int i, .int j, .int k] ∧ (k ≠ 0 ∧ k.natAbs < 1073741824) ∧ Q i j k H1
theorem prg3_1 {ta : TA} (hg : Gl X "range") (hm : X.mg "range" = none) (ha : PA X [a] ta) (hs : starEach [a] X.env = (false, eval a X.env) :: starEach [] X.env := by rfl) (hpl : (backTo pos (starEach [] X.env)).any (·.1) = false := by rfl) : PRg3 X (.Call (.Name "range" p) [a] [] pos) (tRgA1 ta) := by
  intro pins s σ H Q I h
  refine Call_ (ld_blt I hg hm boot_range (PyProof.Rows.callWith_type1 (thn (ha.run pos pins s σ H _ I h) fun us s1 ⟨vs, H1, I1, r1, q1⟩ => ?_) hs hpl))
  obtain ⟨j, rfl, q⟩ := q1
  rcases r1 with _ | ⟨⟨t, rfl⟩, rr⟩
  cases rr
  exact call_range_1 ⟨_, 0, j, _, _, _, _, H1, rfl, IsRange.new _ _ _ _ _ _ _, I1.kept fun b u e => Heap.get?_push_of_some _ e, q⟩
theorem prg3_2 {ta : TA} (hg : Gl X "range") (hm : X.mg "range" = none) (ha : PA X [a, b] ta) (hs : starEach [a, b] X.env = (false, eval a X.env) :: starEach [b] X.env := by rfl) (hpl : (backTo pos (starEach [b] X.env)).any (·.1) = false := by rfl) : PRg3 X (.Call (.Name "range" p) [a, b] [] pos) (tRgA2 ta) := by
  intro pins s σ H Q I h
  refine Call_ (ld_blt I hg hm boot_range (PyProof.Rows.callWith_type1 (thn (ha.run pos pins s σ H _ I h) fun us s1 ⟨vs, H1, I1, r1, q1⟩ => ?_) hs hpl))
  obtain ⟨i, j, rfl, q⟩ := q1
  rcases r1 with _ | ⟨⟨t, rfl⟩, rr⟩
  rcases rr with _ | ⟨⟨t', rfl⟩, rr⟩
  cases rr
  exact call_range_2 ⟨_, i, j, _, _, _, _, H1, rfl, IsRange.new _ _ _ _ _ _ _, I1.kept fun b u e => Heap.get?_push_of_some _ e, q⟩
theorem prg3_3 {ta : TA} (hg : Gl X "range") (hm : X.mg "range" = none) (ha : PA X [a, b, d] ta) (hs : starEach [a, b, d] X.env = (false, eval a X.env) :: starEach [b, d] X.env := by rfl) (hpl : (backTo pos (starEach [b, d] X.env)).any (·.1) = false := by rfl) : PRg3 X (.Call (.Name "range" p) [a, b, d] [] pos) (tRgA3 ta) := by
  intro pins s σ H Q I h
  refine Call_ (ld_blt I hg hm boot_range (PyProof.Rows.callWith_type1 (thn (ha.run pos pins s σ H _ I h) fun us s1 ⟨vs, H1, I1, r1, q1⟩ => ?_) hs hpl))
  obtain ⟨i, j, k, rfl, ⟨c0, c1⟩, q⟩ := q1
  rcases r1 with _ | ⟨⟨t, rfl⟩, rr⟩
  rcases rr with _ | ⟨⟨t', rfl⟩, rr⟩
  rcases rr with _ | ⟨⟨t'', rfl⟩, rr⟩
  cases rr
  exact call_range_3 c0 ⟨_, i, j, k, _, _, _, H1, rfl, IsRange.new _ _ _ _ _ _ _, I1.kept fun b u e => Heap.get?_push_of_some _ e, q⟩ (.inl (PyProof.noPylong_small c1))
def rgVC (i j k : Int) : List V := (List.range (rangeN i j k)).map fun m => V.int (i + (m : Nat) * k)
theorem rgVC_length (i j k : Int) : (rgVC i j k).length = rangeN i j k := by unfold rgVC; rw [List.length_map, List.length_range]
theorem vals_rgc {i j k : Int} {acc : Array Value} (h : ItemsOf (fun m v => ∃ t, v = .int (i + m * k) t) acc (rangeN i j k)) : Vals (rgVC i j k) acc.toList := by
  have e : acc.toList.length = rangeN i j k := by rw [Array.length_toList]; exact h.1
  unfold rgVC
  rw [← e]
  refine vals_of_get acc.toList _ fun m u hm => ?_
  obtain ⟨t, rfl⟩ := h.2 m u (by rw [← hm, Array.getElem?_toList])
  exact ⟨t, rfl⟩
theorem rp_rgc {K : PySem.W.Frag} {G : Hp} (i j k : Int) : RpAll K G (rgVC i j k) (rangeS i j k) := by
  have key : ∀ l : List Nat, RpAll K G (l.map fun m => V.int (i + (m : Nat) * k)) (l.map fun m => PyData.int (i + (m : Nat) * k)) := fun l => by
    induction l with
    | nil => exact .nil
    | cons m l ih => exact .cons (.int _) ih
  exact key _
def RlOk (i j k : Int) : Prop := Builtin.Range.small i j k = true ∧ Builtin.Range.rangeSize i j k = rangeN i j k ∧ rangeN i j k ≤ 2 ^ 24
theorem RcOk.rl {i j k : Int} (h : RcOk i j k) (h2 : rangeN i j k ≤ 100000) : RlOk i j k := ⟨h.rgc.2.2.1, h.rgc.2.2.2, by omega⟩
def tLstRc (te : L2.St → Hp → (Int → Int → Int → Hp → Prop) → Prop) : TE := fun σ H Q => te σ H fun i j k H1 => RlOk i j k ∧ ∀ q, H1 q = none → Q (.ref q) (upd H1 q (.lst (rgVC i j k)))
def tTupRc (te : L2.St → Hp → (Int → Int → Int → Hp → Prop) → Prop) : TE := fun σ H Q => te σ H fun i j k H1 => RlOk i j k ∧ rNewT (rgVC i j k) H1 Q
theorem pe_listRc {te : L2.St → Hp → (Int → Int → Int → Hp → Prop) → Prop} (hc : X.calm = true) (hg : Gl X "list") (hm : X.mg "list" = none) (he : PRg3 X e te) (na : starEach [e] X.env = (false, eval e X.env) :: starEach [] X.env := by rfl) : PE X (.Call (.Name "list" p) [e] [] pos) (tLstRc te) := by
  refine ⟨fun pins s σ H Q I h => ?_⟩
  refine Call_ (ld_blt I hg hm boot_list (PyProof.Rows.callWith_type1 (args_cons (thn (he pins s σ H _ I h) fun x s1 ⟨r, a, b, d, t, u, v, H1, ex, hr, I1, ok, q⟩ => args_nil ?_) na) na))
  subst ex
  obtain ⟨b1, b2, b3⟩ := ok
  refine call_list_range (n := rangeN a b d) (I1.ok.hd hc) hr b1 b2 b3 fun h' tk acc c' hk e' hi => ?_
  refine ⟨.ref s1.heap.objs.size, upd H1 s1.heap.objs.size (.lst (rgVC a b d)), I1.laid hk (Nat.le_refl _) (show ObjOk X.prog X.w _ _ _ (.lst (rgVC a b d)) from ⟨?_, acc.toList, c', vals_rgc hi, ?_⟩), rfl, q _ (I1.hok.fresh (Nat.le_refl _))⟩
  · rw [rgVC_length, sizeLine_eq]; omega
  · rw [Array.toArray_toList]; exact e'
theorem pe_tupRc {te : L2.St → Hp → (Int → Int → Int → Hp → Prop) → Prop} (hc : X.calm = true) (hg : Gl X "tuple") (hm : X.mg "tuple" = none) (he : PRg3 X e te) (na : starEach [e] X.env = (false, eval e X.env) :: starEach [] X.env := by rfl) : PE X (.Call (.Name "tuple" p) [e] [] pos) (tTupRc te) := by
  refine ⟨fun pins s σ H Q I h => ?_⟩
  refine Call_ (ld_blt I hg hm boot_tuple (PyProof.Rows.callWith_type1 (args_cons (thn (he pins s σ H _ I h) fun x s1 ⟨r, a, b, d, t, u, v, H1, ex, hr, I1, ok, q⟩ => args_nil ?_) na) na))
  subst ex
  obtain ⟨b1, b2, b3⟩ := ok
  refine call_tuple_range (n := rangeN a b d) (I1.ok.hd hc) hr b1 b2 b3 fun h' tk acc hk hi => ?_
  have I2 : Inv X pins σ H1 { s1 with heap := h', toks := tk } := I1.kept hk
  have fin := Inv.newT (tk := tk) I2 (vals_rgc hi) (by rw [rgVC_length, sizeLine_eq]; omega) q
  rw [Array.toArray_toList] at fin
  exact fin
/-- a range's ends, however many are told -/
abbrev WR3 := Rn → (Int → Int → Int → Rn → Prop) → (Xn → Prop) → Prop
def wRa1 (ws : WA) : WR3 := fun ρ Qd Qx => wRg1 ws ρ (fun i j ρ1 => Qd i j 1 ρ1) Qx
def wRa2 (ws : WA) : WR3 := fun ρ Qd Qx => wRg2 ws ρ (fun i j ρ1 => Qd i j 1 ρ1) Qx
def LRg (c : Ct) (w : WR3) (σ : L2.St) (H : Hp) (Q : Int → Int → Int → Hp → Prop) : Prop := ∃ G ρ Qd Qx, Rel c.K c.pa c.le G H σ ρ ∧ w ρ Qd Qx ∧ (∀ i j k ρ' G' H', Nw c.K c.pa c.le G H σ ρ G' H' σ ρ' → RcOk i j k → Qd i j k ρ' → Q i j k H') ∧ LX c G H σ ρ Qx
abbrev DR3 (X : Cx) (c : Ct) (e : Expr) (w : WR3) : Prop := PRg3 X e (LRg c w)
theorem PRg3.wk {t t' : L2.St → Hp → (Int → Int → Int → Hp → Prop) → Prop} (h : PRg3 X e t) (i : ∀ σ H Q, t' σ H Q → t σ H Q) : PRg3 X e t' := fun pins s σ H Q I q => h pins s σ H Q I (i σ H Q q)
theorem d_r1 {ws : WA} (hg : Gl X "range") (hm : X.mg "range" = none) (ha : DA X c [a] ws) (hs : starEach [a] X.env = (false, eval a X.env) :: starEach [] X.env := by rfl) (hpl : (backTo pos (starEach [] X.env)).any (·.1) = false := by rfl) : DR3 X c (.Call (.Name "range" p) [a] [] pos) (wRa1 ws) :=
  (prg3_1 hg hm ha hs hpl).wk fun σ H Q ⟨G, ρ, Qd, Qx, rl, hw, hQ, hX⟩ => la_rg1 rl hw hX fun j ρ' G' H' n h1 h2 q => ⟨j, rfl, hQ 0 j 1 ρ' G' H' n ⟨by decide, by decide, by decide, by decide, by decide, h1, h2⟩ q⟩
theorem d_r2 {ws : WA} (hg : Gl X "range") (hm : X.mg "range" = none) (ha : DA X c [a, b] ws) (hs : starEach [a, b] X.env = (false, eval a X.env) :: starEach [b] X.env := by rfl) (hpl : (backTo pos (starEach [b] X.env)).any (·.1) = false := by rfl) : DR3 X c (.Call (.Name "range" p) [a, b] [] pos) (wRa2 ws) :=
  (prg3_2 hg hm ha hs hpl).wk fun σ H Q ⟨G, ρ, Qd, Qx, rl, hw, hQ, hX⟩ => la_rg2 rl hw hX fun i j ρ' G' H' n h q => ⟨i, j, rfl, hQ i j 1 ρ' G' H' n ⟨by decide, by decide, by decide, h.1, h.2.1, h.2.2.1, h.2.2.2⟩ q⟩
theorem d_r3 {ws : WA} (hg : Gl X "range") (hm : X.mg "range" = none) (ha : DA X c [a, b, d] ws) (hs : starEach [a, b, d] X.env = (false, eval a X.env) :: starEach [b, d] X.env := by rfl) (hpl : (backTo pos (starEach [b, d] X.env)).any (·.1) = false := by rfl) : DR3 X c (.Call (.Name "range" p) [a, b, d] [] pos) (wRg3 ws) :=
  (prg3_3 hg hm ha hs hpl).wk fun σ H Q ⟨G, ρ, Qd, Qx, rl, hw, hQ, hX⟩ => la_rg3 rl hw hX fun i j k ρ' G' H' n h q => ⟨i, j, k, rfl, ⟨h.nz, by have := h.k1; have := h.k2; omega⟩, hQ i j k ρ' G' H' n h q⟩
def wLRc (w : WR3) : WE := fun ρ Qd Qx => w ρ (fun i j k ρ1 => rangeN i j k ≤ 100000 ∧ Qd (.tmp (rangeS i j k)) ρ1) Qx
def wTRc (w : WR3) : WE := fun ρ Qd Qx => w ρ (fun i j k ρ1 => rangeN i j k ≤ 100000 ∧ Qd (.im (.tuple (rangeS i j k))) ρ1) Qx
theorem d_listRc {w : WR3} (hc : X.calm = true) (hg : Gl X "list") (hm : X.mg "list" = none) (he : DR3 X c e w) (na : starEach [e] X.env = (false, eval e X.env) :: starEach [] X.env := by rfl) : DE X c (.Call (.Name "list" p) [e] [] pos) (wLRc w) :=
  PEw (pe_listRc hc hg hm he na) fun σ H Q ⟨G, ρ, Qd, Qx, rl, hw, hQ, hX⟩ => ⟨G, ρ, _, Qx, rl, hw, fun i j k ρ1 G1 H1 n1 h ⟨q1, q2⟩ =>
    ⟨h.rl q1, got_lst (fun v' r' ρ' G' H' n2 rr2 fr2 q2 => hQ v' r' ρ' G' H' (n1.trans rl n2) rr2 (fr2.trans n1) q2) n1.r (rp_rgc i j k) q2⟩, hX⟩
theorem d_tupRc {w : WR3} (hc : X.calm = true) (hg : Gl X "tuple") (hm : X.mg "tuple" = none) (he : DR3 X c e w) (na : starEach [e] X.env = (false, eval e X.env) :: starEach [] X.env := by rfl) : DE X c (.Call (.Name "tuple" p) [e] [] pos) (wTRc w) :=
  PEw (pe_tupRc hc hg hm he na) fun σ H Q ⟨G, ρ, Qd, Qx, rl, hw, hQ, hX⟩ => ⟨G, ρ, _, Qx, rl, hw, fun i j k ρ1 G1 H1 n1 h ⟨q1, q2⟩ =>
    ⟨h.rl q1, got_tup (fun v' r' ρ' G' H' n2 rr2 fr2 q2 => hQ v' r' ρ' G' H' (n1.trans rl n2) rr2 (fr2.trans n1) q2) n1.r (rp_rgc i j k) q2⟩, hX⟩
theorem if_eqi {a b : Int} {A B : Prop} (h1 : a = b → A) (h2 : ¬ a = b → B) : IfW (hid (PyData.eqv (.int a) (.int b))) A B :=
  if_hid (fun h => h1 (eq_of_beq h)) fun h => h2 fun e => by
    subst e
    rw [show PyData.eqv (.int a) (.int a) = true from beq_self_eq_true _] at h
    exact nomatch h
theorem if_nei {a b : Int} {A B : Prop} (h1 : ¬ a = b → A) (h2 : a = b → B) : IfW (hid (!PyData.eqv (.int a) (.int b))) A B :=
  if_hid (fun h => h1 fun e => by
    subst e
    rw [show PyData.eqv (.int a) (.int a) = true from beq_self_eq_true _] at h
    exact nomatch h) fun h => h2 (eq_of_beq (a := a) (b := b) (by
      rw [Bool.not_eq_false'] at h
      exact h))
theorem if_T {A B : Prop} (h : A) : IfW (hid (decide True)) A B := if_dec (fun _ => h) fun c => absurd trivial c
theorem if_nT {A B : Prop} (h : B) : IfW (hid (!decide True)) A B := if_ndec (fun c => absurd trivial c) fun _ => h
theorem rangeS_one (i j : Int) : rangeS i j 1 = rangeD i j := by
  unfold rangeS rangeD rangeN
  have e : Builtin.Range.rangeSize i j 1 = (j - i).toNat := rangeSize_nat i j
  rw [e, Int.toNat_natCast]
  exact List.map_congr_left fun m _ => by rw [Int.mul_one]
end
end Tr

namespace Tr
open PySem L2 PyProof.Rows

theorem Rm.u1 {k : Nat} {A : Around} (h : Rm k A) : A.units + 1 < cLine := by have := h.u64; omega
/-! ### dicts of one's own: keys that are ints and texts -/
def valD {κ : Type} [DecidableEq κ] (kvs : List (κ × D)) (k : κ) : Option D := (kvs.find? fun kv => decide (kv.1 = k)).map (·.2)
def putD {κ : Type} [DecidableEq κ] (kvs : List (κ × D)) (k : κ) (v : D) : List (κ × D) :=
  if (kvs.any fun kv => decide (kv.1 = k)) = true then kvs.map (fun kv => if kv.1 = k then (kv.1, v) else kv) else kvs ++ [(k, v)]
def keyD : D → Option Key
  | .int i => some (.inl i)
  | .str x => some (.inr x)
  | _ => none
section
variable {K : PySem.W.Frag} {G : Hp} {κ : Type} [DecidableEq κ]
theorem RpKV.length : ∀ {ws : List (κ × V)} {kvs : List (κ × D)}, RpKV K G ws kvs → ws.length = kvs.length
  | _, _, .nil => rfl
  | _, _, .cons _ t => by rw [List.length_cons, List.length_cons, RpKV.length t]
theorem RpKV.val : ∀ {ws : List (κ × V)} {kvs : List (κ × D)} {k : κ}, RpKV K G ws kvs → (valD kvs k = none → valV ws k = none) ∧ ∀ d, valD kvs k = some d → ∃ v, valV ws k = some v ∧ Rp K G v d
  | _, _, k, .nil => ⟨fun _ => rfl, fun d e => nomatch e⟩
  | (k0, v0) :: ws, (_, d0) :: kvs, k, .cons h t => by
    unfold valD valV
    rw [List.find?_cons, List.find?_cons]
    by_cases e : k0 = k
    · have e1 : decide ((k0, d0).1 = k) = true := decide_eq_true e
      rw [e1]
      refine ⟨fun z => ?_, fun d z => ?_⟩
      · cases z
      · cases z
        exact ⟨v0, rfl, h⟩
    · have e1 : decide ((k0, d0).1 = k) = false := decide_eq_false e
      rw [e1]
      exact RpKV.val t
theorem RpKV.any : ∀ {ws : List (κ × V)} {kvs : List (κ × D)} (k : κ), RpKV K G ws kvs → (ws.any fun kv => decide (kv.1 = k)) = kvs.any fun kv => decide (kv.1 = k)
  | _, _, _, .nil => rfl
  | _, _, k, .cons _ t => by rw [List.any_cons, List.any_cons, RpKV.any k t]
theorem RpKV.repl {v : V} {d : D} (k : κ) (h : Rp K G v d) : ∀ {ws : List (κ × V)} {kvs : List (κ × D)}, RpKV K G ws kvs → RpKV K G (ws.map fun kv => if kv.1 = k then (kv.1, v) else kv) (kvs.map fun kv => if kv.1 = k then (kv.1, d) else kv)
  | _, _, .nil => .nil
  | (k0, v0) :: ws, (_, d0) :: kvs, .cons a t => by
    rw [List.map_cons, List.map_cons]
    by_cases e : k0 = k
    · rw [if_pos e, if_pos e]
      exact .cons h (RpKV.repl k h t)
    · rw [if_neg e, if_neg e]
      exact .cons a (RpKV.repl k h t)
theorem RpKV.snoc {k : κ} {v : V} {d : D} (h : Rp K G v d) : ∀ {ws : List (κ × V)} {kvs : List (κ × D)}, RpKV K G ws kvs → RpKV K G (ws ++ [(k, v)]) (kvs ++ [(k, d)])
  | _, _, .nil => .cons h .nil
  | _, _, .cons a t => .cons a (RpKV.snoc h t)
theorem RpKV.put {v : V} {d : D} (k : κ) (h : Rp K G v d) {ws : List (κ × V)} {kvs : List (κ × D)} (r : RpKV K G ws kvs) : RpKV K G (putK ws k v) (putD kvs k d) := by
  unfold putK putD
  rw [r.any k]
  split
  · exact r.repl k h
  · exact r.snoc h
theorem RpKV.zip : ∀ {ks : List Key} {vs : List V} {ds : List D}, RpAll K G vs ds → RpKV K G (ks.zip vs) (ks.zip ds)
  | [], _, _, _ => by rw [List.zip_nil_left, List.zip_nil_left]; exact .nil
  | _ :: _, _, _, .nil => .nil
  | _ :: _, _, _, .cons a t => .cons a (RpKV.zip t)
end
/-- the dict that a result is -/
def dAt (r : R) (ρ : Rn) : Option (List (Key × D)) := match r with
  | .sl i => (match ρ[i]? with
    | some (.own _ (.d kvs)) => some kvs
    | _ => none)
  | _ => none
section
variable {c : Ct}
theorem dAt_ok {G H : Hp} {σ : L2.St} {ρ : Rn} {v : V} {r : R} {kvs : List (Key × D)} (rl : Rel c.K c.pa c.le G H σ ρ) (rr : RR c.K c.pa G H σ ρ v r) (e : dAt r ρ = some kvs) :
    ∃ i l a ws, r = .sl i ∧ ρ[i]? = some (.own l (.d kvs)) ∧ σ[i]? = some (some (V.ref a)) ∧ v = .ref a ∧ H a = some (.dK ws) ∧ RpKV c.K G ws kvs := by
  cases r with
  | sl i =>
    have e' : (match ρ[i]? with
      | some (.own _ (.d kvs)) => some kvs
      | _ => none) = some kvs := e
    have hv : σ[i]? = some (some v) := rr
    cases e1 : ρ[i]? with
    | none => rw [e1] at e'; cases e'
    | some s =>
      rw [e1] at e'
      cases s with
      | own l o =>
        cases o with
        | l ds => cases e'
        | t kv => cases e'
        | d kv =>
          cases e'
          obtain ⟨ov, z1, a, ho, z2, z3, z4, z5, z6⟩ := rl.sl i _ e1
          rw [hv] at z1; cases z1; cases z2
          cases z5 with
          | d z5 => exact ⟨i, l, a, _, rfl, e1, hv, rfl, z4, z5⟩
      | _ => cases e'
  | _ => cases e
theorem keyD_ok {G H : Hp} {σ : L2.St} {ρ : Rn} {v : V} {r : R} {d : D} {k : Key} (rl : Rel c.K c.pa c.le G H σ ρ) (rr : RR c.K c.pa G H σ ρ v r) (e : vw ρ r = some d) (hk : keyD d = some k) : v = kV k := by
  have h := vw_ok rl rr e
  cases d with
  | int i => cases hk; cases h; rfl
  | str x => cases hk; cases h; rfl
  | _ => cases hk
end
/-- x[y] of a list, a tuple, a dict -/
def fSub : F2 := fun r r' ρ Qd => match dAt r ρ with
  | some kvs => (match vw ρ r' with
    | some y => (match keyD y with
      | some k => (match valD kvs k with
        | some d => Qd (.im d) ρ
        | none => False)
      | none => False)
    | none => False)
  | none => v2 gIx r r' ρ Qd
/-- y in x, y not in x, x a dict or not -/
def fIn (neg : Bool) : F2 := fun r r' ρ Qd => match dAt r' ρ with
  | some kvs => (match vw ρ r with
    | some y => (match keyD y with
      | some k => Qd (.im (.bool (hid (if neg then !(valD kvs k).isSome else (valD kvs k).isSome)))) ρ
      | none => False)
    | none => False)
  | none => v2 (gIn neg) r r' ρ Qd
/-- x[y] = d -/
def setAtD (o i : R) (d : D) (ρ : Rn) (Q : Rn → Prop) : Prop := match o, dAt o ρ with
  | .sl j, some kvs => (match ρ[j]? with
    | some (.own l _) => (match vw ρ i with
      | some y => (match keyD y with
        | some k => kvs.length < 100000 ∧ Q (ρ.set j (.own l (.d (putD kvs k d))))
        | none => False)
      | none => False)
    | _ => False)
  | _, _ => setAt o i d ρ Q
section
variable {X : Cx} {c : Ct} {a b e : Expr} {pos : Pos} {wa wb : WE} {k : Nat}
theorem OpR.or2 {f : Value → Value → Sem Value} {r r' : R2} (h : OpR X f r) (h' : OpR X f r') : OpR X f fun x y H Q => r x y H Q ∨ r' x y H Q := fun pins s σ H x y v u Q I rx ry q => by
  rcases q with q | q
  · exact h pins s σ H x y v u Q I rx ry q
  · exact h' pins s σ H x y v u Q I rx ry q
def rIxD : R2 := fun x y H Q => ∃ a v, x = .ref a ∧ DGet H a y (some v) ∧ Q v H
theorem ix_dict (hu : X.A.units + 1 < cLine) : IxR X rIxD := by
  intro value slice pins s σ H x y v u Q I rx ry h hs
  obtain ⟨a, z, rfl, g, q⟩ := h
  cases (show v = Value.ref a from rx)
  have hT : s.TypeIs (.ref a) "dict" := dict_typeIs I g
  unfold subscriptTail
  refine wpAny_bind ?_
  rw [getitemInPython_of_ne hT.not_modules]
  refine wpAny_bind (wpAny_specialOf hT PySem.F.slot_dict_getitem.lookup ?_)
  have fin : wpAny (model X.prog X.w) X.A (subscripted slice false (.ref a) u) (fun r s₃ => wpAny (model X.prog X.w) X.A (letTemporaryGo value (.ref a) r >>= fun _ => pure r) (EP X pins σ Q) X.xe s₃) X.xe s := by
    rw [hs]
    exact wpAny_operating (wpAny_mono (d_getItem hu I g ry fun w' s' I' rw' => (⟨z, H, I', rw', q⟩ : EP X pins σ Q w' s')) (fun r s₃ h₃ => wpAny_bind (wpAny_letTemporaryGo (wpAny_pure h₃))) fun _ _ x => x)
  first
    | exact wpAny_pure (wpAny_bind fin)
    | exact wpAny_bind (wpAny_pure (wpAny_bind fin))
    | exact wpAny_bind fin
theorem s_sub (hK : X.K = c.K) : Snd2 c (fun x y H Q => (rIxL X.K x y H Q ∨ rIxT X.K x y H Q) ∨ rIxD x y H Q) fSub := fun G H σ ρ v v' r r' Qd Q rl c1 c2 rr rr' q hg => by
  unfold fSub at q
  cases e : dAt r ρ with
  | none =>
    rw [e] at q
    rw [hK]
    exact .inl (snd2 ok_ix G H σ ρ v v' r r' Qd Q rl c1 c2 rr rr' q hg)
  | some kvs =>
    rw [e] at q
    obtain ⟨i, l, a, ws, rfl, h1, h2, rfl, h3, h4⟩ := dAt_ok rl rr e
    cases e1 : vw ρ r' with
    | none => rw [e1] at q; exact q.elim
    | some y =>
      rw [e1] at q
      dsimp only at q
      cases e2 : keyD y with
      | none => rw [e2] at q; exact q.elim
      | some k =>
        rw [e2] at q
        dsimp only at q
        cases e3 : valD kvs k with
        | none => rw [e3] at q; exact q.elim
        | some d =>
          rw [e3] at q
          obtain ⟨z, e4, e5⟩ := h4.val.2 d e3
          have ek := keyD_ok rl rr' e1 e2
          subst ek
          exact .inr ⟨a, z, rfl, .inl ⟨ws, k, .inl h3, rfl, e4.symm⟩, hg z (.im d) ρ G H (Nw.refl rl) e5 trivial q⟩
theorem d_subD (hr : Rm k X.A) (ha : DE X c a wa) (hb : DE X c b wb) (hs : PlainIx b := by exact fun _ _ => rfl) (hK : X.K = c.K := by rfl) : DE X c (.Subscript a b pos) (w2 fSub wa wb) :=
  d_ix (IxR.or (IxR.or ix_list ix_tup) (ix_dict (by have := hr.u64; omega))) (s_sub hK) ha hb hs
def rInD (neg : Bool) : R2 := fun y x H Q => ∃ a o, x = .ref a ∧ DGet H a y o ∧ Q (.bl (if neg then !o.isSome else o.isSome)) H
theorem op_inD (hu : X.A.units + 1 < cLine) : OpR X (compareOp .In) (rInD false) := fun pins s σ H y x u v Q I ry rx ⟨a, o, ex, g, q⟩ => by
  subst ex
  cases (show v = Value.ref a from rx)
  exact L2.d_in hu I g ry fun s' I' => ⟨.bl o.isSome, H, I', rfl, q⟩
theorem op_ninD (hu : X.A.units + 1 < cLine) : OpR X (compareOp .NotIn) (rInD true) := fun pins s σ H y x u v Q I ry rx ⟨a, o, ex, g, q⟩ => by
  subst ex
  cases (show v = Value.ref a from rx)
  exact L2.d_notIn hu I g ry fun s' I' => ⟨.bl (!o.isSome), H, I', rfl, q⟩
theorem s_in {neg : Bool} (hK : X.K = c.K) : Snd2 c (fun x y H Q => rInA neg X.K x y H Q ∨ rInD neg x y H Q) (fIn neg) := fun G H σ ρ v v' r r' Qd Q rl c1 c2 rr rr' q hg => by
  unfold fIn at q
  cases e : dAt r' ρ with
  | none =>
    rw [e] at q
    rw [hK]
    exact .inl (snd2 ok_in G H σ ρ v v' r r' Qd Q rl c1 c2 rr rr' q hg)
  | some kvs =>
    rw [e] at q
    obtain ⟨i, l, a, ws, rfl, h1, h2, rfl, h3, h4⟩ := dAt_ok rl rr' e
    cases e1 : vw ρ r with
    | none => rw [e1] at q; exact q.elim
    | some y =>
      rw [e1] at q
      dsimp only at q
      cases e2 : keyD y with
      | none => rw [e2] at q; exact q.elim
      | some k =>
        rw [e2] at q
        have ek := keyD_ok rl rr e1 e2
        subst ek
        refine .inr ⟨a, valV ws k, rfl, .inl ⟨ws, k, .inl h3, rfl, rfl⟩, ?_⟩
        have es : (valV ws k).isSome = (valD kvs k).isSome := by
          cases e3 : valD kvs k with
          | none => rw [h4.val.1 e3]; rfl
          | some d =>
            obtain ⟨z, e4, _⟩ := h4.val.2 d e3
            rw [e4]
            rfl
        rw [es]
        exact got_flat hg rl (flat_hid _) q
theorem d_inD (hr : Rm k X.A) (ha : DE X c a wa) (hb : DE X c b wb) (hm : behindInMarks .In b = false := by rfl) (hK : X.K = c.K := by rfl) : DE X c (.Compare a [.In] [b] pos) (w2 (fIn false) wa wb) := d_cmp (OpR.or2 (op_inA hr.u66) (op_inD (by have := hr.u64; omega))) (s_in hK) ha hb hm
theorem d_ninD (hr : Rm k X.A) (ha : DE X c a wa) (hb : DE X c b wb) (hm : behindInMarks .NotIn b = false := by rfl) (hK : X.K = c.K := by rfl) : DE X c (.Compare a [.NotIn] [b] pos) (w2 (fIn true) wa wb) := d_cmp (OpR.or2 (op_ninA hr.u66) (op_ninD (by have := hr.u64; omega))) (s_in hK) ha hb hm
theorem d_tinD (hr : Rm k X.A) (ha : DE X c a wa) (hb : DE X c b wb) (hm : behindInMarks .In b = false := by rfl) (hK : X.K = c.K := by rfl) : DT X c (.Compare a [.In] [b] pos) (wT (w2 (fIn false) wa wb)) := d_tcmp (OpR.or2 (op_inA hr.u66) (op_inD (by have := hr.u64; omega))) (s_in hK) ha hb hm
theorem d_tninD (hr : Rm k X.A) (ha : DE X c a wa) (hb : DE X c b wb) (hm : behindInMarks .NotIn b = false := by rfl) (hK : X.K = c.K := by rfl) : DT X c (.Compare a [.NotIn] [b] pos) (wT (w2 (fIn true) wa wb)) := d_tcmp (OpR.or2 (op_ninA hr.u66) (op_ninD (by have := hr.u64; omega))) (s_in hK) ha hb hm
/-! storing -/
theorem PSet.or {t t' : TSet} (h : PSet X t) (h' : PSet X t') : PSet X fun o i v H Q => t o i v H Q ∨ t' o i v H Q := fun pins s σ H o i v ov iv u Q I r1 r2 r3 q => by
  rcases q with q | q
  · exact h pins s σ H o i v ov iv u Q I r1 r2 r3 q
  · exact h' pins s σ H o i v ov iv u Q I r1 r2 r3 q
theorem setAtD_ok {G H : Hp} {σ : L2.St} {ρ : Rn} {o i : R} {ov iv v : V} {d : D} {Q : Rn → Prop} (rl : Rel c.K c.pa c.le G H σ ρ) (ho : RR c.K c.pa G H σ ρ ov o) (hi : RR c.K c.pa G H σ ρ iv i) (hd : Rp c.K G v d) (q : setAtD o i d ρ Q) :
    (∃ p xs k j, ov = .ref p ∧ iv = .int k ∧ H p = some (.lst xs) ∧ ixN xs.length k = some j ∧ ∃ ρ', Nw c.K c.pa c.le G H σ ρ G (upd H p (.lst (xs.set j v))) σ ρ' ∧ Q ρ') ∨
      ∃ p ws k, ov = .ref p ∧ iv = kV k ∧ H p = some (.dK ws) ∧ ws.length < sizeLine ∧ ∃ ρ', Nw c.K c.pa c.le G H σ ρ G (upd H p (.dK (putK ws k v))) σ ρ' ∧ Q ρ' := by
  unfold setAtD at q
  cases e : dAt o ρ with
  | none =>
    rw [e] at q
    refine .inl (setAt_ok rl ho hi hd ?_)
    cases o <;> exact q
  | some kvs =>
    obtain ⟨j, l, a, ws, rfl, h1, h2, rfl, h3, h4⟩ := dAt_ok rl ho e
    rw [e] at q
    dsimp only at q
    rw [h1] at q
    dsimp only at q
    cases e1 : vw ρ i with
    | none => rw [e1] at q; exact q.elim
    | some y =>
      rw [e1] at q
      dsimp only at q
      cases e2 : keyD y with
      | none => rw [e2] at q; exact q.elim
      | some k =>
        rw [e2] at q
        exact .inr ⟨a, ws, k, rfl, keyD_ok rl hi e1 e2, h3, lt_szl (by rw [h4.length]; exact q.1), _, Nw.mutO rl h1 h2 (.d (h4.put k hd)), q.2⟩
def wgSD (wo wi : WE) : WG := fun d ρ Q Qx => wo ρ (fun o ρ1 => wi ρ1 (fun i ρ2 => setAtD (pin o) (pin i) d ρ2 Q) Qx) Qx
theorem d_gSD {wo wi : WE} (hr : Rm k X.A) (ho : DE X c a wo) (hi : DE X c b wi)
    (ha : ∀ v, assign (.Subscript a b pos) X.env v = (do
      let ov ← holding [v] (eval a X.env)
      let iv ← holding [v, ov] (eval b X.env)
      standAt pos
      holding [v, ov, iv] (setItem ov iv v)
      release [v, ov, iv] []) := by intro _; rfl) : DG X c (.Subscript a b pos) (wgSD wo wi) :=
  PGw (pg_sub ho hi (PSet.or set_list (set_dict (by have := hr.u64; omega))) ha) fun v σ H Q ⟨G, ρ, d, Qd, Qx, rl, hd, hw, hQ, hX⟩ => by
    refine ⟨G, ρ, _, Qx, rl, hw, fun ov o ρ1 G1 H1 n1 rr fr q => ?_, hX⟩
    obtain ⟨G2, n2, _, rr2⟩ := n1.pin rl rr fr
    refine ⟨G2, ρ1, _, Qx, n2.r, q, fun iv i ρ3 G3 H3 n3 rr3 fr3 q3 => ?_, hX.trans rl n2⟩
    obtain ⟨G4, n4, _, rr4⟩ := n3.pin n2.r rr3 fr3
    have n5 := n2.trans rl n4
    rcases setAtD_ok n4.r (calm_RR (pin_calm o) n4.a.g rr2) rr4 (Rp.mono n5.a.g _ _ hd) q3 with ⟨p, xs, k, j, e1, e2, e3, e4, ρ', n6, q6⟩ | ⟨p, ws, k, e1, e2, e3, e4, ρ', n6, q6⟩
    · exact .inl ⟨p, xs, k, j, e1, e2, e3, e4, hQ _ _ _ _ (n5.trans rl n6) q6⟩
    · refine .inr ⟨p, _, e1, .inl ⟨ws, k, e3, e2, e4, rfl⟩, hQ _ _ _ _ (n5.trans rl n6) q6⟩
/-! making -/
def wDnew : WE := fun ρ Qd _ => Qd (.tm (.d [])) ρ
theorem d_dnew : DE X c (.Dict [] [] pos) wDnew := PEw pe_dnewK fun σ H Q ⟨G, ρ, Qd, Qx, rl, hw, hQ, hX⟩ p hp => by
  obtain ⟨n2, h2, h3⟩ := Nw.new_ob rl hp (.d .nil : ObR c.K G p (.dK []) (.d []))
  exact hQ _ (.tm (.d [])) ρ _ _ n2 h2 h3 hw
def wConsL : List WE → WA
  | [] => wN
  | w :: ws => wCons w (wConsL ws)
theorem tPairs_ok : ∀ (kws : List (Key × WE)) {σ : L2.St} {H : Hp} {Q : List (V × V) → Hp → Prop} {G : Hp} {ρ : Rn} {Qd : List R → Rn → Prop} {Qx : Xn → Prop}, Rel c.K c.pa c.le G H σ ρ → wConsL (kws.map (·.2)) ρ Qd Qx →
    (∀ vs rs ρ' G' H', Nw c.K c.pa c.le G H σ ρ G' H' σ ρ' → RRs c.K c.pa G' H' σ ρ' vs rs → Qd rs ρ' → Q (((kws.map (·.1)).zip vs).map fun kv => (kV kv.1, kv.2)) H') → LX c G H σ ρ Qx → tPairs (kws.map fun kw => (tC (kV kw.1), LE c kw.2)) σ H Q
  | [], σ, H, Q, G, ρ, Qd, Qx, rl, hw, hQ, hX => hQ [] [] ρ G H (Nw.refl rl) .nil hw
  | (k, w) :: r, σ, H, Q, G, ρ, Qd, Qx, rl, hw, hQ, hX => by
    show LE c w σ H _
    refine ⟨G, ρ, _, Qx, rl, hw, fun v x ρ1 G1 H1 n1 rr fr q => ?_, hX⟩
    obtain ⟨G2, n2, _, rr2⟩ := n1.pin rl rr fr
    refine tPairs_ok r n2.r q (fun vs rs ρ3 G3 H3 n3 rr3 q3 => ?_) (hX.trans rl n2)
    exact hQ (v :: vs) (pin x :: rs) ρ3 G3 H3 (n2.trans rl n3) (.cons ⟨pin_calm x, calm_RR (pin_calm x) n3.a.g rr2⟩ rr3) q3
theorem merge_nodup : ∀ (more acc : List (Key × V)), (∀ p ∈ more, ∀ q ∈ acc, p.1 ≠ q.1) → (more.map (·.1)).Nodup → mergeK acc more = acc ++ more
  | [], acc, _, _ => (List.append_nil acc).symm
  | p :: r, acc, h, hn => by
    rw [List.map_cons, List.nodup_cons] at hn
    have e : putK acc p.1 p.2 = acc ++ [p] := by
      unfold putK
      rw [if_neg]
      rw [List.any_eq_true]
      rintro ⟨q, hq, hq2⟩
      exact h p List.mem_cons_self q hq (of_decide_eq_true hq2).symm
    show mergeK (putK acc p.1 p.2) r = _
    rw [e, merge_nodup r (acc ++ [p]) (fun x hx q hq => ?_) hn.2, List.append_assoc]
    · rfl
    · rcases List.mem_append.mp hq with z | z
      · exact h x (List.mem_cons_of_mem _ hx) q z
      · rw [List.mem_singleton.mp z]
        exact fun e2 => hn.1 (e2 ▸ List.mem_map_of_mem hx)
def wDisp (keys : List Key) (ws : WA) : WE := fun ρ Qd Qx => ws ρ (fun rs ρ1 => fzs rs ρ1 fun ds ρ2 => Qd (.tm (.d (keys.zip ds))) ρ2) Qx
theorem d_disp {keys : List (Option Expr)} {values : List Expr} (kws : List (Key × WE)) (h : PPs X pos keys values (kws.map fun kw => (tC (kV kw.1), LE c kw.2))) (hn : (kws.map (·.1)).Nodup := by decide) (hall : keys.all (·.isSome) = true := by rfl) (hl : keys.length = values.length := by rfl) (h0 : keys ≠ [] := by exact fun z => nomatch z)
    (h15 : keys.length ≤ 15 := by decide) (hk : kws.length ≤ 15 := by decide) : DE X c (.Dict keys values pos) (wDisp (kws.map (·.1)) (wConsL (kws.map (·.2)))) :=
  PEw (pe_disp h hall hl h0 h15) fun σ H Q ⟨G, ρ, Qd, Qx, rl, hw, hQ, hX⟩ p hp => by
    have gp : G p = none := by
      cases e : G p with
      | none => rfl
      | some o => rw [rl.ext p o e] at hp; cases hp
    have no : ¬ Own σ ρ p := fun z => (rl.owT z).1 hp
    have np : ¬ PotAt c.pa p := fun z => (rl.potT z).1 hp
    have n0 : Nw c.K c.pa c.le G H σ ρ G (upd H p (.dK [])) σ ρ := Nw.poke (Nw.refl rl) hp gp no np
    refine tPairs_ok kws n0.r hw (fun vs rs ρ1 G1 H1 n1 rr q => ?_) (hX.trans rl n0)
    obtain ⟨k1, k2, k3⟩ := n1.kept upd_same gp no np
    obtain ⟨G2, ds, ρ2, n2, h2, q2⟩ := fzs_ok n1.r rr q
    obtain ⟨k4, k5, k6⟩ := n2.kept k1 k2 k3 np
    have hz : (((kws.map (·.1)).zip vs).map (·.1)).Nodup := by
      have hs : ∀ (ks : List Key) (us : List V), (ks.zip us).map (·.1) = ks.take us.length := fun ks => by
        induction ks with
        | nil => intro us; rw [List.zip_nil_left, List.take_nil]; rfl
        | cons k ks ih =>
          intro us
          cases us with
          | nil => rfl
          | cons u us => rw [List.zip_cons_cons, List.map_cons, ih us, List.length_cons, List.take_succ_cons]
      rw [hs]
      exact List.Nodup.sublist (List.take_sublist _ _) hn
    refine ⟨k4, (kws.map (·.1)).zip vs, rfl, ?_, ?_⟩
    · rw [List.length_zip, List.length_map]
      omega
    · rw [merge_nodup _ [] (fun _ _ q hq => nomatch hq) hz, List.nil_append]
      have n3 := (n0.trans rl n1).trans rl n2
      exact hQ (.ref p) (.tm (.d ((kws.map (·.1)).zip ds))) ρ2 G2 _ (Nw.poke n3 hp k5 k6 np) ⟨p, _, rfl, k5, upd_same, .d (RpKV.zip h2), k6, np⟩ (fun a e => by cases e; exact .inl hp) q2
/-! a test that is a choice of two -/
def wIfT (t u w : WT) : WT := fun ρ Qd Qx => t ρ (fun k ρ1 => IfW k (u ρ1 Qd Qx) (w ρ1 Qd Qx)) Qx
theorem d_tifx {t u w : WT} {cnd : Expr} (ht : DT X c cnd t) (ha : DT X c a u) (hb : DT X c b w) : DT X c (.IfExp cnd a b pos) (wIfT t u w) := by
  refine ⟨fun pins s σ H Q I ⟨G, ρ, Qd, Qx, rl, hw, hQ, hX⟩ => ?_⟩
  refine PyProof.Rows.isTrue_IfExp (thn (ht.run pins s σ H (fun k H1 => if k = true then LT c u σ H1 Q else LT c w σ H1 Q) I ⟨G, ρ, _, Qx, rl, hw, fun k ρ1 G1 H1 n1 q => ?_, hX⟩) fun k s1 ⟨H1, I1, q1⟩ => ?_)
  · cases k with
    | true => exact ⟨G1, ρ1, Qd, Qx, n1.r, q.t rfl, fun k ρ' G' H' n2 q2 => hQ k ρ' G' H' (n1.trans rl n2) q2, hX.trans rl n1⟩
    | false => exact ⟨G1, ρ1, Qd, Qx, n1.r, q.f rfl, fun k ρ' G' H' n2 q2 => hQ k ρ' G' H' (n1.trans rl n2) q2, hX.trans rl n1⟩
  · cases k with
    | true => exact ha.run pins s1 σ H1 Q I1 q1
    | false => exact hb.run pins s1 σ H1 Q I1 q1
end
end Tr

namespace Tr
open PySem PySem.W PyProof.Rows
section
variable {prog : Program} {w : World} {A : Around} {E : Value → Shared → Prop} {s : Shared} {vs : List Value}
/-- sorted(a tuple) is list.sort on a new list of its items -/
theorem sorted_of_tup {t : Addr} {o : Obj} {n : Nat} {Q : Value → Shared → Prop} (ho : s.heap.get? t = some o) (hc : o.cls = .type "tuple") (hd : o.data = .seq vs.toArray n) (hL : vs.length ≤ sizeLine)
    (body : ∀ h' : Heap, (∀ b o', s.heap.get? b = some o' → h'.get? b = some o') → ∀ E' : Value → Shared → Prop, wpAny (model prog w) A.in1.in1 (Builtin.«list.sort» ⟨[.ref h'.objs.size], []⟩) (fun f s' => f = .done (.ret .none) ∧ Q (.ref h'.objs.size) s') E' { s with heap := h'.push (seqObj "list" vs.toArray 0) }) :
    wpAny (model prog w) A (call (.builtin "sorted") [.ref t]) Q E s := by
  refine call_function_entry_kw kind_sorted plain_sorted entry_sorted (args_sorted1 _) ?_
  unfold Builtin.«sorted»
  refine wpAny_bind (m := checkCount "sorted" 1 1 _) (wpAny_pure ?_)
  refine wpAny_bind (wpAny_collect_seq t (.inr rfl) ho hc hd (fun h' hk => ?_) (by rw [List.size_toArray]; exact hL))
  rw [show vs.toArray.toList = vs by simp]
  refine wpAny_bind (wpAny_newList ?_ hL)
  have hS : (h'.push (seqObj "list" vs.toArray 0)).get? h'.objs.size = some (seqObj "list" vs.toArray 0) := Heap.get?_push_size _ rfl
  refine wpAny_bind (wpAny_holding (wpAny_call_entry_kw slot_list_sort ⟨_, hS, rfl⟩ entry_list_sort ?body (args_list_sort _)))
  case body =>
    show wpAny (model prog w) A.in1.in1 (Builtin.«list.sort» ⟨[.ref h'.objs.size], []⟩) _ _ _
    refine wpAny_mono (body h' hk _) (fun f s' hf => ?_) fun _ _ e => e
    obtain ⟨rfl, hq⟩ := hf
    exact ⟨_, rfl, wpAny_pure ⟨_, rfl, hq⟩⟩
end
end Tr
namespace Tr
open PySem L2
section
variable {X : Cx}
def rSortT (K : PySem.W.Frag) : List V → Hp → VK → Prop := fun vs H Q => ∃ (a : Addr) (xs : List V) (ds : List D), vs = [V.ref a] ∧ SqT K H a xs ∧ DpAll K H xs ds ∧ PySem.W.AllAlike ds ∧ PySem.W.Sortable ds ∧ (∀ d ∈ ds, d.depth ≤ 60) ∧
  ∀ (p : Addr) (ys : List V), (∀ P : V → D → Prop, Paired P xs ds → Paired P ys (sortD ds)) → H p = none → Q (.ref p) (upd H p (.lst ys))
theorem cr_sortedTup (hu : X.A.units + 66 < cLine) : CallR X (.builtin "sorted") (rSortT X.K) := by
  intro pins s σ H vs us Q I r h
  obtain ⟨a, xs, ds, rfl, hs, hd, al, so, dp, q⟩ := h
  obtain ⟨its, rv, hl, hz⟩ := I.tuple hs
  obtain ⟨as, rd⟩ := Dp.readsAll I _ _ its hd rv
  obtain ⟨e1, e2, e3⟩ := each_zip rv rd
  rw [Vals.ref1 r]
  have hlen : (xs.zip ds).length = its.length := e1.length.symm
  obtain ⟨o, ho, hc, n, hdt⟩ := id hl
  have hL : its.length ≤ sizeLine := by rw [← rv.length]; exact hz
  have hb : ∀ b ∈ xs.zip ds, b.2 ∈ ds := fun b hb => by
    have : b.2 ∈ (xs.zip ds).map (·.2) := List.mem_map.mpr ⟨b, hb, rfl⟩
    rw [e3] at this
    exact this
  refine sorted_of_tup ho hc hdt hL fun h' hk E' => ?_
  have hS : (h'.push (PyProof.Rows.seqObj "list" its.toArray 0)).get? h'.objs.size = some (PyProof.Rows.seqObj "list" its.toArray 0) := Heap.get?_push_size _ rfl
  have keep : ∀ b u, s.heap.get? b = some u → (PySem.W.sortingHeap (h'.push (PyProof.Rows.seqObj "list" its.toArray 0)) h'.objs.size its).get? b = some u := fun b u e => by
    have e4 := hk b u e
    exact PySem.W.sortingHeap_old (Nat.ne_of_lt (Heap.lt_size e4)) (Heap.get?_push_of_some _ e4)
  have er' : PySem.W.EachIs (fun (v : Value) (b : V × D) => ∃ as, Reads (PySem.W.sortingHeap (h'.push (PyProof.Rows.seqObj "list" its.toArray 0)) h'.objs.size its) v b.2 as) its (xs.zip ds) := e2.mono fun _ _ ⟨as, r⟩ => ⟨as, PyProof.Rows.Reads.keeps keep r⟩
  refine PySem.W.list_sort_vals (s := { s with heap := h'.push (PyProof.Rows.seqObj "list" its.toArray 0) }) hS (PySem.W.SortsAt.data (s := { s with heap := PySem.W.sortingHeap (h'.push (PyProof.Rows.seqObj "list" its.toArray 0)) h'.objs.size its }) (PySem.W.each_map (R := fun v d => ∃ as, Reads (PySem.W.sortingHeap (h'.push (PyProof.Rows.seqObj "list" its.toArray 0)) h'.objs.size its) v d as) (fun b : V × D => b.2) er') (by rw [e3]; exact al) (by rw [e3]; exact so) (PySem.W.bound_map (enc := fun b : V × D => b.2) fun b hb' => ?_)) hL ⟨rfl, ?_⟩
  · have := dp b.2 (hb b hb')
    show X.A.units + 1 + 1 + b.2.depth < cLine
    omega
  · have h2 := PySem.W.sortVals_data (R := fun (v : Value) (b : V × D) => RelV b.1 v) false e1 er' (by rw [e3]; exact al)
    generalize PySem.W.sortVals _ false its its = out at h2 ⊢
    have perm := List.mergeSort_perm (xs.zip ds) (PySem.W.dataLe false (·.2))
    have em : ((xs.zip ds).mergeSort (PySem.W.dataLe false (·.2))).map (·.2) = sortD ds := by
      unfold sortD
      have h := List.map_mergeSort (r := fun a b : V × D => PySem.W.dataLe false id a.2 b.2) (s := PySem.W.dataLe false id) (f := fun b : V × D => b.2) (l := xs.zip ds) (fun a _ b _ => rfl)
      rw [e3] at h
      exact h
    obtain ⟨ep, he'⟩ := PyProof.Rows.sortedHeap_at (out := out.toArray) hS
    have hl2 : (((xs.zip ds).mergeSort (PySem.W.dataLe false (·.2))).map (·.1)).length ≤ sizeLine := by
      rw [List.length_map, perm.length_eq, hlen]
      exact hL
    have I1 : Inv X pins σ H { s with heap := h' } := I.kept (t' := s.toks) hk
    refine ⟨.ref _, upd H h'.objs.size (.lst (((xs.zip ds).mergeSort (PySem.W.dataLe false (·.2))).map (·.1))), I1.laid (t' := s.toks) (fun b u hu => ?_) (Nat.le_refl _) ⟨hl2, out, ep, each_vals h2, he'⟩, rfl, q _ _ (fun P hP => ?_) (I1.hok.fresh (Nat.le_refl _))⟩
    · rw [PyProof.Rows.sortedHeap_old (Nat.ne_of_lt (Heap.lt_size hu)) (Heap.lt_size (Heap.get?_push_of_some _ hu))]
      exact Heap.get?_push_of_some _ hu
    · rw [← em]
      exact zip_paired fun b hb => paired_zip hP b (perm.mem_iff.mp hb)
variable {c : Ct} {e : Expr} {p pos : Pos} {ws : WA} {k : Nat}
def gSortY : D → (R → Prop) → Prop := fun d q => match d with
  | .list ds => ((PyData.hasDictAll ds = false ∧ PySem.W.AllAlike ds ∧ PySem.W.Sortable ds) ∧ ∀ d ∈ ds, d.depth ≤ 60) ∧ q (.tmp (sortD ds))
  | .tuple ds => ((PyData.hasDictAll ds = false ∧ PySem.W.AllAlike ds ∧ PySem.W.Sortable ds) ∧ ∀ d ∈ ds, d.depth ≤ 60) ∧ q (.tmp (sortD ds))
  | _ => False
/-- sorted(x) of a list or a tuple of data -/
theorem d_sortedY (hr : Rm k X.A) (hg : Gl X "sorted") (hm : X.mg "sorted" = none) (ha : DA X c [e] ws) (hK : X.K = c.K := by rfl) (he : starEach [e] X.env = (false, eval e X.env) :: starEach [] X.env := by rfl) (hpl : (backTo pos (starEach [] X.env)).any (·.1) = false := by rfl) : DE X c (.Call (.Name "sorted" p) [e] [] pos) (wA (vA1 gSortY) ws) :=
  d_callB (CallR.or (cr_sortedX hr.u66) (cr_sortedTup hr.u66)) (sndA1 fun G H σ ρ v r d Qd Q rl rr h1 q hg => by
    cases d with
    | list ds =>
      obtain ⟨⟨⟨s1, s2, s3⟩, s4⟩, q⟩ := q
      obtain ⟨a1, us, rfl, t1, p1⟩ := vw_lst rl rr h1
      exact .inl ⟨a1, us, ds, rfl, SqL.of t1, RpAll.dp _ _ (by rw [hK]; exact RpAll.mono rl.ext _ _ p1) s1, s2, s3, s4, fun p' ys hP hp => got_lst hg rl (paired_rp (hP _ (rp_paired p1))) q p' hp⟩
    | tuple ds =>
      obtain ⟨⟨⟨s1, s2, s3⟩, s4⟩, q⟩ := q
      obtain ⟨a1, us, rfl, t1, p1⟩ := vw_tup rl rr h1
      exact .inr ⟨a1, us, ds, rfl, by rw [hK]; exact (t1.mono rl.ext).sq, RpAll.dp _ _ (by rw [hK]; exact RpAll.mono rl.ext _ _ p1) s1, s2, s3, s4, fun p' ys hP hp => got_lst hg rl (paired_rp (hP _ (rp_paired p1))) q p' hp⟩
    | _ => exact q.elim) hg hm (by decide +kernel) ha (he := he) (hpl := hpl)
end
end Tr

namespace Tr
open PySem L2
/-! ### max(x, default=d) -/
def rExtDf (K : PySem.W.Frag) (best : D → List D → D) : List V → List V → Hp → VK → Prop := fun vs zs H Q => ∃ (a : Addr) (xs : List V) (ds : List D) (z : V), vs = [V.ref a] ∧ zs = [z] ∧ SqL K H a xs ∧ DpAll K H xs ds ∧ PyData.canLayAll0 ds = true ∧ PyData.depthAll ds ≤ 60 ∧ PySem.W.AlikeAll ds ∧
  (ds = [] → Q z H) ∧ ∀ (y : D) (ys : List D), ds = y :: ys → ∀ (i : Nat) (v : V), xs[i]? = some v → ds[i]? = some (best y ys) → Q v H
section
variable {X : Cx}
theorem cr_maxDf (hc : X.calm = true) (hu : X.A.units + 66 < cLine) : CallRK X (.builtin "max") [Str.ofString "default"] (rExtDf X.K PySem.W.maxD) := by
  intro pins s σ H vs zs us ws Q I r rz h
  obtain ⟨a, xs, ds, z, rfl, rfl, hs, hd, cl, dp, al, q0, q⟩ := h
  rw [Vals.ref1 r]
  obtain ⟨w1, rfl, e1⟩ := vals1 rz
  have hu2 : X.A.units + 1 + PyData.depthAll ds < cLine := by omega
  obtain ⟨its, rv, hl, _⟩ := I.list hs
  obtain ⟨as, rd⟩ := Dp.readsAll I _ _ its hd rv
  exact PySem.W.max_list_default (I.ok.hd hc) hl.isList (show ReadsAll s.heap its.toArray.toList ds as from rd) al hu2 (fun e h' tk hk => ⟨z, H, I.kept hk, e1, q0 e⟩) fun y ys i v h' tk bs e h1 h2 h3 => best_at I rv rd cl (q y ys e) h1 h2 h3
variable {c : Ct} {e e0 : Expr} {p pos kpos : Pos} {ws : WA} {k : Nat} {z : V} {d0 : D}
def gExtDf (best : D → List D → D) (d0 : D) : D → (R → Prop) → Prop := fun d q => match d with
  | .list [] => q (.im d0)
  | .list (x :: xs) => Ord1 (x :: xs) ∧ q (.im (best x xs))
  | _ => False
theorem sndDf (hK : X.K = c.K) (hz : flatD z = some d0) {best : D → List D → D} : SndA c (fun vs H Q => rExtDf X.K best vs [z] H Q) (vA1 (gExtDf best d0)) :=
  sndA1 fun G H σ ρ v r d Qd Q rl rr h1 q hg => by
    cases d with
    | list ds =>
      cases ds with
      | nil =>
        obtain ⟨a1, us, rfl, t1, p1⟩ := vw_lst rl rr h1
        cases p1
        exact ⟨a1, [], [], z, rfl, rfl, SqL.of t1, .nil, rfl, by decide, ⟨fun a ha => absurd ha List.not_mem_nil, fun a ha => absurd ha List.not_mem_nil⟩, fun _ => got_flat hg rl hz q, fun y ys e => by cases e⟩
      | cons d1 ds =>
        obtain ⟨⟨⟨s1, s2⟩, s3⟩, q⟩ := q
        obtain ⟨a1, us, rfl, t1, p1⟩ := vw_lst rl rr h1
        have cl : PyData.canLayAll0 (d1 :: ds) = true := by simpa only [PyData.canLay0] using SeqAt.canLay_of_shaped s1.1
        have hd : PyData.hasDictAll (d1 :: ds) = false := by simpa only [PyData.hasDict] using s1.2
        exact ⟨a1, us, d1 :: ds, z, rfl, rfl, SqL.of t1, RpAll.dp _ _ (by rw [hK]; exact RpAll.mono rl.ext _ _ p1) hd, cl, s2, s3, (fun e => by cases e), (fun y ys e i v hi hb => by
          obtain ⟨rfl, rfl⟩ := List.cons.inj e
          exact got_known hg rl (RpAll.get2 p1 hi hb) q)⟩
    | _ => exact q.elim
theorem d_maxDf (hr : Rm k X.A) (hc : X.calm = true) (hg : Gl X "max") (hm : X.mg "max" = none) (ha : DA X c [e] ws) (h0 : PE X e0 (tC z)) (hz : flatD z = some d0 := by rfl) (hK : X.K = c.K := by rfl)
    (he : backTo pos (starEach [e] X.env) = (false, eval e X.env) :: backTo pos (starEach [] X.env) := by rfl) (hpl : (backTo pos (starEach [e] X.env)).any (·.1) = false := by rfl)
    (hall : (backToKw pos (keywordEach [⟨some (Str.ofString "default"), e0, kpos⟩] X.env)).all (·.1.isSome) = true := by rfl) (hnone : (backToKw pos (keywordEach [⟨some (Str.ofString "default"), e0, kpos⟩] X.env)).any (·.1.isNone) = false := by rfl) (hks : (backToKw pos (keywordEach [⟨some (Str.ofString "default"), e0, kpos⟩] X.env)).filterMap (·.1) = [Str.ofString "default"] := by rfl) :
    DE X c (.Call (.Name "max" p) [e] [⟨some (Str.ofString "default"), e0, kpos⟩] pos) (wA (vA1 (gExtDf PySem.W.maxD d0)) ws) :=
  PEw (pe_callBK (cr_maxDf hc hr.u66) hg hm (by decide +kernel) ha (pk_cons h0 pk_nil) (he := he) (hpl := hpl) (hall := hall) (hnone := hnone) (hks := hks)) fun σ H Q h => leA (sndDf hK hz) h
end
end Tr
namespace Tr
open PySem L2
/-! ### repr of data that may hold dicts of flat values -/
mutual
def cleanB : D → Bool
  | .list ds => cleanAll ds
  | .tuple ds => cleanAll ds
  | .dict kvs => (scrOf kvs).isNone
  | _ => true
def cleanAll : List D → Bool
  | [] => true
  | d :: ds => cleanB d && cleanAll ds
end
mutual
theorem cleanB_of : ∀ d : D, d.hasDict = false → cleanB d = true
  | .none, _ => rfl
  | .bool _, _ => rfl
  | .int _, _ => rfl
  | .str _, _ => rfl
  | .list ds, h => by
    rw [cleanB]
    exact cleanAll_of ds (by simpa only [PyData.hasDict] using h)
  | .tuple ds, h => by
    rw [cleanB]
    exact cleanAll_of ds (by simpa only [PyData.hasDict] using h)
  | .dict _, h => by simp only [PyData.hasDict, Bool.true_eq_false] at h
theorem cleanAll_of : ∀ ds : List D, PyData.hasDictAll ds = false → cleanAll ds = true
  | [], _ => rfl
  | d :: ds, h => by
    simp only [PyData.hasDictAll, Bool.or_eq_false_iff] at h
    rw [cleanAll, cleanB_of d h.1, cleanAll_of ds h.2]
    rfl
end
section
variable {X : Cx} {pins : List (Addr × Obj)} {σ : L2.St} {H : Hp} {s : Shared}
theorem flat_reads {h : Heap} {v : V} {u : Value} {d : D} (hf : flatD v = some d) (r : RelV v u) : Reads h u d [] := by
  cases v <;> first | cases hf | skip
  · cases r; exact .none
  · cases r; exact .bool _
  · obtain ⟨t, rfl⟩ := r; exact .int _ t
  · obtain ⟨t, rfl⟩ := r; exact .str _ t
theorem flat_pairs {P : Program} {w : World} {h : Heap} : ∀ {es : List DictEntry} {vs : List (Key × Value)} {ws : List (Key × V)} {out : List (D × D)}, Pairs (mixKind P w) es vs → KV ws vs → FlatKv ws out →
    ReadsAll h (es.map (·.key)) (out.map (·.1)) [] ∧ ReadsAll h (es.map (·.val)) (out.map (·.2)) []
  | _, _, _, _, .nil, .nil, .nil => ⟨.nil, .nil⟩
  | e0 :: _, _, (k0, _) :: _, _, .cons hk hv t, .cons r rt, .cons hf ft => by
    obtain ⟨h1, h2⟩ := flat_pairs (h := h) t rt ft
    obtain ⟨e1, r1⟩ := r
    refine ⟨ReadsAll.cons (as := []) ?_ h1, ReadsAll.cons (as := []) ?_ h2⟩
    · show Reads h e0.key (keyDt k0) []
      rcases keyIs_shape hk with ⟨i, t, z1, z2⟩ | ⟨x, t, z1, z2⟩
      · have z3 : k0 = Sum.inl i := e1.trans z1
        rw [z2, z3]
        exact .int i t
      · have z3 : k0 = Sum.inr x := e1.trans z1
        rw [z2, z3]
        exact .str x t
    · show Reads h (DictEntry.val _) _ []
      rw [hv]
      exact flat_reads hf r1
theorem reads_dfl {a : Addr} {ws : List (Key × V)} {out : List (D × D)} (I : Inv X pins σ H s) (h1 : H a = some (.dK ws)) (h2 : FlatKv ws out) : Reads s.heap (.ref a) (.dict out) [a] ∧ sysModules ∉ [a] := by
  obtain ⟨_, hsm, vs, rel, o, es, ep, ho, hx, hd, _, hp, _⟩ := dk_of I.hok h1
  obtain ⟨r1, r2⟩ := flat_pairs (h := s.heap) hp rel h2
  refine ⟨Reads.dict (as := []) (bs := []) ho hx.1 hd r1 r2, fun hm => ?_⟩
  rw [List.mem_singleton.mp hm] at hsm
  simp at hsm
mutual
theorem rpk (I : Inv X pins σ H s) : ∀ (d : D) (v : V) (u : Value), Rp X.K H v d → cleanB d = true → d.showable = true → d.shown.length ≤ sizeLine → RelV v u → ∃ as bs, Reads s.heap u d as ∧ ReadAtMost s.heap d.depth bs ∧ ReprK X.prog X.w bs s.heap d.depth u d.shown
  | .none, _, _, h, _, hs, hz, r => by
    cases h
    have rd := flat_reads (h := s.heap) (show flatD .non = some .none from rfl) r
    obtain ⟨bs, h1, h2⟩ := ReprK.of_reads (prog := X.prog) (w := X.w) rd hs (fun z => nomatch z) hz
    exact ⟨_, bs, rd, h1, h2⟩
  | .bool b, _, _, h, _, hs, hz, r => by
    cases h
    have rd := flat_reads (h := s.heap) (show flatD (.bl b) = some (.bool b) from rfl) r
    obtain ⟨bs, h1, h2⟩ := ReprK.of_reads (prog := X.prog) (w := X.w) rd hs (fun z => nomatch z) hz
    exact ⟨_, bs, rd, h1, h2⟩
  | .int i, _, _, h, _, hs, hz, r => by
    cases h
    have rd := flat_reads (h := s.heap) (show flatD (.int i) = some (.int i) from rfl) r
    obtain ⟨bs, h1, h2⟩ := ReprK.of_reads (prog := X.prog) (w := X.w) rd hs (fun z => nomatch z) hz
    exact ⟨_, bs, rd, h1, h2⟩
  | .str x, _, _, h, _, hs, hz, r => by
    cases h
    have rd := flat_reads (h := s.heap) (show flatD (.str x) = some (.str x) from rfl) r
    obtain ⟨bs, h1, h2⟩ := ReprK.of_reads (prog := X.prog) (w := X.w) rd hs (fun z => nomatch z) hz
    exact ⟨_, bs, rd, h1, h2⟩
  | .dict kvs, _, _, h, hc, hs, hz, r => by
    cases h with
    | scr h1 =>
      rename_i a ns
      rw [cleanB, show scrOf [(PyData.none, PyData.list (ns.map PyData.int))] = some ns from intsOf_ints ns] at hc
      cases hc
    | dfl h1 h2 =>
      cases r
      obtain ⟨rd, hm⟩ := reads_dfl I h1 h2
      obtain ⟨bs, g1, g2⟩ := ReprK.of_reads (prog := X.prog) (w := X.w) rd hs (fun _ => hm) hz
      exact ⟨_, bs, rd, g1, g2⟩
  | .list ds, _, _, h, hc, hs, hz, r => by
    cases h with
    | lst h1 h2 =>
      cases r
      obtain ⟨its, rv, ⟨o, n, ho, hcl, _, hd⟩, _⟩ := I.list (SqL.of h1)
      have hz' : (listText (PyData.shownAll ds)).length ≤ sizeLine := by simpa only [PyData.shown] using hz
      obtain ⟨as, bs, rd, hb, hk⟩ := rpkAll I ds _ _ h2 (by rw [cleanB] at hc; exact hc) (by simpa [PyData.showable] using hs) (fun t ht => Nat.le_trans (listText_mem_le ht) hz') rv
      have rl : Reads s.heap (.ref _) (.list ds) _ := Reads.list ho hcl hd rd
      have hna := not_mem_of_deeper rl (n := PyData.depthAll ds) (by simp only [PyData.depth]; omega) hb
      refine ⟨_, _, rl, ReadAtMost.cons rl (by simp only [PyData.depth]; omega) hb, ?_⟩
      simp only [PyData.depth, PyData.shown]
      cases its with
      | nil =>
        cases rd
        simp only [PyData.shownAll, listText_nil]
        exact ReprK.listEmpty ho hcl hd
      | cons x l => exact ReprK.list ho hcl hd hna (by simpa using hk.length_eq) (fun i y e => hk.item i y (by simpa using e))
  | .tuple ds, _, _, h, hc, hs, hz, r => by
    cases h with
    | tup h1 h2 =>
      cases r
      obtain ⟨its, rv, ⟨o, ho, hcl, n, hd⟩, _⟩ := I.tuple h1.sq
      have hz' : (tupleText (PyData.shownAll ds)).length ≤ sizeLine := by simpa only [PyData.shown] using hz
      obtain ⟨as, bs, rd, hb, hk⟩ := rpkAll I ds _ _ h2 (by rw [cleanB] at hc; exact hc) (by simpa [PyData.showable] using hs) (fun t ht => Nat.le_trans (tupleText_mem_le ht) hz') rv
      have rl : Reads s.heap (.ref _) (.tuple ds) _ := Reads.tuple ho hcl hd rd
      have hna := not_mem_of_deeper rl (n := PyData.depthAll ds) (by simp only [PyData.depth]; omega) hb
      refine ⟨_, _, rl, ReadAtMost.cons rl (by simp only [PyData.depth]; omega) hb, ?_⟩
      simp only [PyData.depth, PyData.shown]
      exact ReprK.tuple ho hcl hd hna hk
theorem rpkAll (I : Inv X pins σ H s) : ∀ (ds : List D) (vs : List V) (us : List Value), RpAll X.K H vs ds → cleanAll ds = true → PyData.showableAll ds = true → (∀ t ∈ PyData.shownAll ds, t.length ≤ sizeLine) → Vals vs us →
    ∃ as bs, ReadsAll s.heap us ds as ∧ ReadAtMost s.heap (PyData.depthAll ds) bs ∧ ReprAllK X.prog X.w bs s.heap (PyData.depthAll ds) us (PyData.shownAll ds)
  | [], _, _, h, _, _, _, r => by
    cases h
    cases r
    exact ⟨_, [], .nil, (fun _ h => nomatch h), by simp only [PyData.shownAll]; exact .nil⟩
  | d :: ds, _, _, h, hc, hs, hz, r => by
    cases h with
    | cons h1 h2 =>
      cases r with
      | cons r1 r2 =>
        rw [cleanAll, Bool.and_eq_true] at hc
        have hs' : d.showable = true ∧ PyData.showableAll ds = true := by simpa [PyData.showableAll] using hs
        obtain ⟨as1, b1, rd1, hb1, k1⟩ := rpk I d _ _ h1 hc.1 hs'.1 (hz _ (by simp only [PyData.shownAll]; exact List.mem_cons_self)) r1
        obtain ⟨as2, b2, rd2, hb2, k2⟩ := rpkAll I ds _ _ h2 hc.2 hs'.2 (fun t ht => hz t (by simp only [PyData.shownAll]; exact List.mem_cons_of_mem _ ht)) r2
        refine ⟨_, b1 ++ b2, .cons rd1 rd2, fun b hm => ?_, ?_⟩
        · simp only [PyData.depthAll]
          rcases List.mem_append.mp hm with hm | hm
          · obtain ⟨d', as', r', hd'⟩ := hb1 b hm
            exact ⟨d', as', r', Nat.le_trans hd' (Nat.le_max_left _ _)⟩
          · obtain ⟨d', as', r', hd'⟩ := hb2 b hm
            exact ⟨d', as', r', Nat.le_trans hd' (Nat.le_max_right _ _)⟩
        · simp only [PyData.depthAll, PyData.shownAll]
          exact .cons ((k1.more fun b hb => List.mem_append_left _ hb).level_le (Nat.le_max_left _ _)) (k2.more_le (fun b hb => List.mem_append_right _ hb) (Nat.le_max_right _ _))
end
theorem call_reprX (hg : X.A.guards = some []) (hu : X.A.units + 66 < cLine) : CallR X (.builtin "repr") (fun xs H Q => ∃ v d, xs = [v] ∧ Rp X.K H v d ∧ cleanB d = true ∧ d.showable = true ∧ d.depth ≤ 64 ∧ d.shown.length ≤ sizeLine ∧ Q (.str d.shown) H) := by
  intro pins s σ H xs us Q I r h
  obtain ⟨v, d, rfl, hd, hc, h1, h3, h4, q⟩ := h
  obtain ⟨u, rfl, rx⟩ := Vals.one r
  by_cases hdict : d.hasDict = true
  · have hq : ∀ h' u tk, (∀ b o, s.heap.get? b = some o → h'.get? b = some o) → EP X pins σ Q (.str d.shown u) { s with heap := h', toks := tk } := fun h' u tk hk => ⟨.str _, H, I.kept (t' := tk) hk, ⟨_, rfl⟩, q⟩
    cases hd with
    | non => simp only [PyData.hasDict, Bool.false_eq_true] at hdict
    | bl b => simp only [PyData.hasDict, Bool.false_eq_true] at hdict
    | int i => simp only [PyData.hasDict, Bool.false_eq_true] at hdict
    | str x => simp only [PyData.hasDict, Bool.false_eq_true] at hdict
    | scr g1 =>
      rename_i a ns
      rw [cleanB, show scrOf [(PyData.none, PyData.list (ns.map PyData.int))] = some ns from intsOf_ints ns] at hc
      cases hc
    | dfl g1 g2 =>
      cases rx
      obtain ⟨rd, hm⟩ := reads_dfl I g1 g2
      exact repr_of_reads' (h₀ := s.heap) rd h1 (fun _ => hm) hg (by omega) (fun _ _ e => e) hq h4
    | lst g1 g2 =>
      rename_i a xs ds
      cases rx
      obtain ⟨its, rv, ⟨o, n, ho, hcl, _, hdt⟩, _⟩ := I.list (SqL.of g1)
      have hz' : (listText (PyData.shownAll ds)).length ≤ sizeLine := by simpa only [PyData.shown] using h4
      obtain ⟨as, bs, rd, hb, hk⟩ := rpkAll I ds _ _ g2 (by rw [cleanB] at hc; exact hc) (by simpa [PyData.showable] using h1) (fun t ht => Nat.le_trans (listText_mem_le ht) hz') rv
      have rl : Reads s.heap (.ref a) (.list ds) _ := Reads.list ho hcl hdt rd
      have hna := not_mem_of_deeper rl (n := PyData.depthAll ds) (by simp only [PyData.depth]; omega) hb
      simp only [PyData.depth] at h3
      simp only [PyData.shown] at hq
      refine call_repr_slot (by omega) ⟨o, ho, hcl⟩ F.slot_list_repr.toG ?_
      cases its with
      | nil =>
        cases rd
        simp only [PyData.shownAll, listText_nil] at hq
        exact call_list_repr_empty ⟨o, ho, hcl⟩ ho hdt ⟨_, _, rfl, hq s.heap _ _ fun _ _ e => e⟩
      | cons x l =>
        exact call_list_reprK ho hcl hdt hna (by simpa using hk.length_eq) (fun i y e => hk.item i y (by simpa using e)) hg (fun b _ => Clear.nil b) (by show X.A.units + 1 + _ < _; omega) (fun _ _ e => e) (fun h' u tk hk' => ⟨_, _, rfl, hq h' u tk hk'⟩) hz'
    | tup g1 g2 =>
      rename_i a xs ds
      cases rx
      obtain ⟨its, rv, ⟨o, ho, hcl, n, hdt⟩, _⟩ := I.tuple g1.sq
      have hz' : (tupleText (PyData.shownAll ds)).length ≤ sizeLine := by simpa only [PyData.shown] using h4
      obtain ⟨as, bs, rd, hb, hk⟩ := rpkAll I ds _ _ g2 (by rw [cleanB] at hc; exact hc) (by simpa [PyData.showable] using h1) (fun t ht => Nat.le_trans (tupleText_mem_le ht) hz') rv
      have rl : Reads s.heap (.ref a) (.tuple ds) _ := Reads.tuple ho hcl hdt rd
      have hna := not_mem_of_deeper rl (n := PyData.depthAll ds) (by simp only [PyData.depth]; omega) hb
      simp only [PyData.depth] at h3
      simp only [PyData.shown] at hq
      refine call_repr_slot (by omega) ⟨o, ho, hcl⟩ F.slot_tuple_repr ?_
      exact call_tuple_reprK ho hcl hdt hna hk hg (fun b _ => Clear.nil b) (by show X.A.units + 1 + _ < _; omega) (fun _ _ e => e) (fun h' u tk hk' => ⟨_, _, rfl, hq h' u tk hk'⟩) hz'
  · have hnd : d.hasDict = false := by simpa using hdict
    exact call_reprD hg hu pins s σ H [v] [u] Q I (.cons rx .nil) ⟨v, d, rfl, Rp.dp _ _ hd hnd, h1, hnd, h3, h4, q⟩
end
/-- fit for repr, dicts of flat values let be -/
def RprX (d : D) : Prop := d.showable = true ∧ cleanB d = true ∧ d.depth ≤ 64 ∧ d.shown.length ≤ 16777216
def gReprX : D → (R → Prop) → Prop := fun d q => RprX d ∧ q (.im (.str d.shown))
theorem Rpr.x {d : D} (h : Rpr d) : RprX d := ⟨h.1, cleanB_of d h.2.1, h.2.2⟩
section
variable {X : Cx} {c : Ct} {e : Expr} {p pos : Pos} {ws : WA} {k : Nat}
theorem d_reprX (hr : Rm k X.A) (hg : Gl X "repr") (hm : X.mg "repr" = none) (ha : DA X c [e] ws) (hK : X.K = c.K := by rfl) (he : starEach [e] X.env = (false, eval e X.env) :: starEach [] X.env := by rfl) (hpl : (backTo pos (starEach [] X.env)).any (·.1) = false := by rfl) : DE X c (.Call (.Name "repr" p) [e] [] pos) (wA (vA1 gReprX) ws) :=
  d_callB (call_reprX hr.g hr.u66) (sndA1 fun G H σ ρ v r d Qd Q rl rr h1 q hg =>
    ⟨v, d, rfl, by rw [hK]; exact vw_ok rl rr h1, q.1.2.1, q.1.1, q.1.2.2.1, by rw [sizeLine_eq]; exact q.1.2.2.2, got_flat hg rl rfl q.2⟩) hg hm (by decide +kernel) ha (he := he) (hpl := hpl)
end
end Tr
namespace Tr
open PySem L2
/-! ### a dict of flat values, known from its making; str(x) -/
def flatDD : D → Bool
  | .none => true
  | .bool _ => true
  | .int _ => true
  | .str _ => true
  | _ => false
def flatO : List (Key × D) → Option (List (D × D))
  | [] => some []
  | (k, d) :: r => if flatDD d then (flatO r).map ((keyDt k, d) :: ·) else none
theorem flat_rp {K : PySem.W.Frag} {G : Hp} {v : V} {d : D} (h : Rp K G v d) (f : flatDD d = true) : flatD v = some d := by
  cases d <;> first | cases f | skip
  · cases h; rfl
  · cases h; rfl
  · cases h; rfl
  · cases h; rfl
theorem flatKv_of {K : PySem.W.Frag} {G : Hp} : ∀ {ws : List (Key × V)} {kvs : List (Key × D)} {out : List (D × D)}, RpKV K G ws kvs → flatO kvs = some out → FlatKv ws out
  | _, _, _, .nil, h => by cases h; exact .nil
  | _, (k, d) :: r, _, .cons a t, h => by
    unfold flatO at h
    by_cases f : flatDD d = true
    · rw [if_pos f] at h
      cases e : flatO r with
      | none => rw [e] at h; cases h
      | some o =>
        rw [e] at h
        cases h
        exact .cons (flat_rp a f) (flatKv_of t e)
    · rw [if_neg f] at h
      cases h
def kdR (Qd : R → Rn → Prop) (ρ : Rn) : R → Prop
  | .tm (.d kvs) => (match flatO kvs with
    | some out => Qd (.im (.dict out)) ρ
    | none => False)
  | _ => False
def wKd (w : WE) : WE := fun ρ Qd Qx => w ρ (fun r ρ1 => kdR Qd ρ1 r) Qx
def gStr : D → (R → Prop) → Prop := fun d q => match d with
  | .int i => i.natAbs.log2 < 1920 ∧ q (.im (.str (toString i)))
  | .str x => q (.im (.str x))
  | .bool b => q (.im (.str (if b then "True" else "False")))
  | .none => q (.im (.str "None"))
  | _ => False
section
variable {X : Cx} {c : Ct} {e : Expr} {p pos : Pos} {ws : WA} {w : WE} {k : Nat}
theorem d_kd (h : DE X c e w) : DE X c e (wKd w) := PEw h fun σ H Q ⟨G, ρ, Qd, Qx, rl, hw, hQ, hX⟩ => by
  refine ⟨G, ρ, _, Qx, rl, hw, fun v r ρ1 G1 H1 n1 rr fr q => ?_, hX⟩
  cases r with
  | tm o =>
    cases o with
    | l ds => exact q.elim
    | t kvs => exact q.elim
    | d kvs =>
      have q' : (match flatO kvs with
        | some out => Qd (.im (.dict out)) ρ1
        | none => False) := q
      cases e2 : flatO kvs with
      | none => rw [e2] at q'; exact q'.elim
      | some out =>
        rw [e2] at q'
        obtain ⟨a, ho, rfl, g, hh, ra, no, np⟩ := rr
        cases ra with
        | d ra =>
          obtain ⟨s1, A1, r1⟩ := know rl n1.a n1.r g hh no np (fr a rfl)
          exact hQ (.ref a) (.im (.dict out)) ρ1 _ H1 ⟨A1, n1.o, r1⟩ (Rp.dfl upd_same (flatKv_of ra e2)) trivial q'
  | im d => exact q.elim
  | sl i => exact q.elim
  | pot => exact q.elim
  | dead => exact q.elim
def rStr : List V → Hp → VK → Prop := fun xs H Q => (∃ i, xs = [.int i] ∧ i.natAbs.log2 < 1920 ∧ Q (.str (toString i)) H) ∨ (∃ x, xs = [.str x] ∧ Q (.str x) H) ∨ (∃ b, xs = [.bl b] ∧ Q (.str (if b then "True" else "False")) H) ∨ (xs = [.non] ∧ Q (.str "None") H)
theorem call_strX : CallR X (.type "str") rStr := by
  intro pins s σ H xs us Q I r h
  rcases h with ⟨i, rfl, hz, q⟩ | ⟨x, rfl, q⟩ | ⟨b, rfl, q⟩ | ⟨rfl, q⟩
  · obtain ⟨u, rfl, t, rfl⟩ := vals1 r
    exact PySem.P.str_of_int hz ⟨.str _, H, I.tok _, ⟨_, rfl⟩, q⟩
  · obtain ⟨u, rfl, t, rfl⟩ := vals1 r
    exact PySem.P.str_of_str ⟨.str x, H, I, ⟨t, rfl⟩, q⟩
  · obtain ⟨u, rfl, e⟩ := vals1 r
    cases e
    exact PySem.P.str_of_bool ⟨.str _, H, I.tok _, ⟨_, rfl⟩, q⟩
  · obtain ⟨u, rfl, e⟩ := vals1 r
    cases e
    exact PySem.P.str_of_none ⟨.str _, H, I.tok _, ⟨_, rfl⟩, q⟩
theorem d_str (hg : Gl X "str") (hm : X.mg "str" = none) (ha : DA X c [e] ws) (he : starEach [e] X.env = (false, eval e X.env) :: starEach [] X.env := by rfl) (hpl : (backTo pos (starEach [] X.env)).any (·.1) = false := by rfl) : DE X c (.Call (.Name "str" p) [e] [] pos) (wA (vA1 gStr) ws) :=
  d_callTy call_strX (sndA1 fun G H σ ρ v r d Qd Q rl rr h1 q hg => by
    cases d with
    | int i =>
      have e1 := vw_int rl rr h1
      subst e1
      exact .inl ⟨i, rfl, q.1, got_flat hg rl rfl q.2⟩
    | str x =>
      have e1 : v = .str x := vw_flat rl rr h1 rfl
      subst e1
      exact .inr (.inl ⟨x, rfl, got_flat hg rl rfl q⟩)
    | bool b =>
      have e1 : v = .bl b := vw_flat rl rr h1 rfl
      subst e1
      exact .inr (.inr (.inl ⟨b, rfl, got_flat hg rl rfl q⟩))
    | none =>
      have e1 : v = .non := vw_flat rl rr h1 rfl
      subst e1
      exact .inr (.inr (.inr ⟨rfl, got_flat hg rl rfl q⟩))
    | _ => exact q.elim) hg hm (by decide +kernel) ha (he := he) (hpl := hpl)
end
end Tr
namespace Tr
open PySem PySem.Spec PyProof.Rows L2
/-! ### a tuple so many times -/
theorem tuple_mulSame (l : Addr) (items : Array Value) (n : Nat) (dd : Option Addr) (sl : Array (Option Value)) (x : Int) (u : Tok) (c0 : (decide (x < -(2 ^ 63)) || decide (x ≥ 2 ^ 63)) = false) (c1 : (items.isEmpty || x == 1) = true) :
    Meets (Builtin.«tuple.__mul__» ⟨[.ref l, .int x u], []⟩) (fun _ R s => s.heap.get? l = some { cls := .type "tuple", dict := dd, data := .seq items n, slots := sl } ∧ R (.ok (.ret (.ref l))) s) :=
  .of_wp fun prog w A R s h => by
    obtain ⟨hp, g, d, tk, os⟩ := s
    obtain ⟨hl, h⟩ := h
    have f1 := AutoSeq1.idx_int
    wp_walk using wpAny_loadPart' hl
    repeat (first
      | (refine wpAny_ite_false (decide_eq_false (by rw [c0]; exact Bool.false_ne_true)) ?_; wp_walk using wpAny_loadPart' hl)
      | (refine wpAny_ite_true (decide_eq_true c1) ?_; wp_walk using wpAny_loadPart' hl))
    exact ⟨_, rfl, h⟩
theorem tuple_mulNone (l : Addr) (items : Array Value) (n : Nat) (dd : Option Addr) (sl : Array (Option Value)) (x : Int) (u : Tok) (c0 : (decide (x < -(2 ^ 63)) || decide (x ≥ 2 ^ 63)) = false) (c1 : (items.isEmpty || x == 1) = false) (c2 : (decide (x ≤ 0) || items.isEmpty) = true) :
    Meets (Builtin.«tuple.__mul__» ⟨[.ref l, .int x u], []⟩) (fun _ R s => s.heap.get? l = some { cls := .type "tuple", dict := dd, data := .seq items n, slots := sl } ∧ R (.ok (.ret (.ref s.heap.objs.size))) { s with heap := s.heap.push { cls := Value.type "tuple", data := Data.seq #[] }, toks := s.toks }) :=
  .of_wp fun prog w A R s h => by
    obtain ⟨hp, g, d, tk, os⟩ := s
    obtain ⟨hl, h⟩ := h
    have f1 := AutoSeq1.idx_int
    wp_walk using wpAny_loadPart' hl
    repeat (first
      | (refine wpAny_ite_false (decide_eq_false (by rw [c0]; exact Bool.false_ne_true)) ?_; wp_walk using wpAny_loadPart' hl)
      | (refine wpAny_ite_false (decide_eq_false (by rw [c1]; exact Bool.false_ne_true)) ?_; wp_walk using wpAny_loadPart' hl)
      | (refine wpAny_ite_true (decide_eq_true c2) ?_; wp_walk using wpAny_loadPart' hl))
    exact ⟨_, rfl, h⟩
def rRepN (K : PySem.W.Frag) : R2 := fun x y H Q => ∃ (l : Addr) (k : Int) (xs : List V), x = .ref l ∧ y = .int k ∧ SqT K H l xs ∧ (-1000 ≤ k ∧ k ≤ 1000 ∧ xs.length ≤ 1000) ∧ ((xs = [] ∨ k = 1) → Q (.ref l) H) ∧ (¬ (xs = [] ∨ k = 1) → rNewT (List.replicate k.toNat xs).flatten H Q)
section
variable {X : Cx}
theorem op_repN : OpR X (binaryOp .Mult) (rRepN X.K) := by
  intro pins s σ H x y v u Q I rx ry h
  obtain ⟨l, k, xs, rfl, rfl, hT, ⟨h1, h2, hz⟩, q1, q2⟩ := h
  cases rx
  obtain ⟨t, rfl⟩ := ry
  obtain ⟨its, r, ⟨⟨cls, dd, data, sl⟩, ho, hc, n, hd⟩, hs⟩ := I.tuple hT
  simp only at hc hd
  subst hc hd
  have hle : its.length = xs.length := r.length.symm
  have hsz0 : its.toArray.size = xs.length := by rw [List.size_toArray, hle]
  have hie : its.toArray.isEmpty = decide (xs = []) := by
    cases its with
    | nil =>
      have : xs = [] := List.eq_nil_of_length_eq_zero hle.symm
      subst this
      rfl
    | cons a b =>
      have : xs ≠ [] := fun e => by rw [e] at hle; cases hle
      rw [decide_eq_false this]
      rfl
  have c0 : (decide (k < -(2 ^ 63)) || decide (k ≥ 2 ^ 63)) = false := by
    rw [decide_eq_false (by omega), decide_eq_false (by omega)] <;> rfl
  have hk : (k == 1) = decide (k = 1) := rfl
  have go : ∀ {Q1 : Value → Shared → Prop} {E1 : Value → Shared → Prop}, wpAny (model X.prog X.w) X.A (call (.builtin "tuple.__mul__") [.ref l, .int k t]) Q1 E1 s → wpAny (model X.prog X.w) X.A (call (.builtin "tuple.__mul__") [.ref l, .int k t]) Q1 E1 s := fun h => h
  refine wpAny_binaryOp_repeat_ref (T := "tuple") (U := "int") (by decide) ⟨_, ho, rfl⟩ (fun s' => typeIs_int s' k t) noFill_tuple_mul F.fills_int_mul F.slot_int_rmul repeat_tuple F.slot_int_index.lookup
    (call_meets F.slot_int_rmul (typeIs_int s k t) F.entry_int_rmul (F.args_int_rmul_2 _ _) (int_rmul_tuple k t l its.toArray n dd sl) ⟨ho, rfl, ⟨_, ho, rfl⟩, ?_⟩)
  by_cases e1 : xs = [] ∨ k = 1
  · have c1 : (its.toArray.isEmpty || k == 1) = true := by
      rw [hie, hk, Bool.or_eq_true, decide_eq_true_eq, decide_eq_true_eq]
      exact e1
    exact call_meets F.slot_tuple_mul ⟨_, ho, rfl⟩ F.entry_tuple_mul (F.args_tuple_mul_2 _ _) (tuple_mulSame l its.toArray n dd sl k t c0 c1) ⟨ho, .ref l, H, I, rfl, q1 e1⟩
  · have c1 : (its.toArray.isEmpty || k == 1) = false := by
      rw [hie, hk, Bool.or_eq_false_iff, decide_eq_false_iff_not, decide_eq_false_iff_not]
      exact ⟨fun z => e1 (.inl z), fun z => e1 (.inr z)⟩
    have q3 := q2 e1
    by_cases e2 : k ≤ 0
    · have c2 : (decide (k ≤ 0) || its.toArray.isEmpty) = true := by
        rw [decide_eq_true e2]
        rfl
      have e3 : (List.replicate k.toNat xs).flatten = [] := by
        rw [show k.toNat = 0 by omega]
        rfl
      rw [e3] at q3
      exact call_meets F.slot_tuple_mul ⟨_, ho, rfl⟩ F.entry_tuple_mul (F.args_tuple_mul_2 _ _) (tuple_mulNone l its.toArray n dd sl k t c0 c1 c2) ⟨ho, Inv.newT (tk := s.toks) (us := []) I .nil (Nat.zero_le _) q3⟩
    · have c2 : (decide (k ≤ 0) || its.toArray.isEmpty) = false := by
        rw [decide_eq_false e2, hie, decide_eq_false fun z => e1 (.inl z)]
        rfl
      have hm : ((its.toArray.size : Nat) : Int) * k ≤ 1000000 := by
        rw [hsz0]
        have a1 : ((xs.length : Nat) : Int) * k ≤ 1000 * k := Int.mul_le_mul_of_nonneg_right (by omega) (by omega)
        omega
      have flen : (List.replicate k.toNat its).flatten.length ≤ sizeLine := by
        rw [PyProof.Rows.lm_len_rep_flat, hle, sizeLine_eq]
        have a1 : k.toNat * xs.length ≤ 1000 * 1000 := Nat.mul_le_mul (by omega) hz
        omega
      have c4 : Builtin.Tuple.tupleTooMany (((its.toArray.size : Nat) : Int) * k) = false := by
        unfold Builtin.Tuple.tupleTooMany
        rw [sizeLine_eq]
        exact decide_eq_false (by omega)
      refine call_meets F.slot_tuple_mul ⟨_, ho, rfl⟩ F.entry_tuple_mul (F.args_tuple_mul_2 _ _) (tuple_mulW l its.toArray n dd sl k t c0 c1 c2 (by omega) c4 (by rw [size_rep, List.size_toArray]; exact flen)) ⟨ho, ?_⟩
      rw [size_rep]
      refine Inv.newT (tk := s.toks) I (r.rep k.toNat) ?_ q3
      rw [PyProof.Rows.lm_len_rep_flat, sizeLine_eq]
      have a1 : k.toNat * xs.length ≤ 1000 * 1000 := Nat.mul_le_mul (by omega) hz
      omega
variable {c : Ct} {a b : Expr} {wa wb : WE} {pos : Pos}
/-- int * int, list * int, tuple * int -/
def gMulX : D → D → (R → Prop) → Prop := fun d e q => match d, e with
  | .tuple a, .int k => (-1000 ≤ k ∧ k ≤ 1000 ∧ a.length ≤ 1000) ∧ q (.im (.tuple (List.replicate k.toNat a).flatten))
  | d, e => gMul d e q
theorem ok_mulX : Ok2 c (fun x y H Q => (rI CMul (fun i j => .int (i * j)) x y H Q ∨ rRep x y H Q) ∨ rRepN c.K x y H Q) gMulX := fun G H σ ρ v v' r r' d e Qd Q rl rr rr' h1 h2 q hg => by
  by_cases z : (∃ xs, d = .tuple xs) ∧ ∃ k, e = .int k
  · obtain ⟨⟨xs, rfl⟩, k, rfl⟩ := z
    obtain ⟨a1, us, rfl, t1, p1⟩ := vw_tup rl rr h1
    have e2 := vw_int rl rr' h2
    subst e2
    obtain ⟨⟨k1, k2, k3⟩, q⟩ := q
    refine .inr ⟨a1, k, us, rfl, rfl, (t1.mono rl.ext).sq, ⟨k1, k2, by rw [RpAll.length p1]; exact k3⟩, fun z => ?_, fun _ => got_tup hg rl (RpAll.repl _ p1) q⟩
    refine got_known hg rl (.tup t1 p1) ?_
    rcases z with z | z
    · subst z
      cases p1
      have e3 : (List.replicate k.toNat ([] : List D)).flatten = [] := by simp
      rw [e3] at q
      exact q
    · subst z
      have e3 : (List.replicate (Int.toNat 1) xs).flatten = xs := by simp
      rw [e3] at q
      exact q
  · have q' : gMul d e (fun r => Qd r ρ) := by
      cases d <;> first | exact q | (cases e <;> first | exact q | exact absurd ⟨⟨_, rfl⟩, _, rfl⟩ z)
    exact .inl (ok_mul G H σ ρ v v' r r' d e Qd Q rl rr rr' h1 h2 q' hg)
theorem d_mulX (ha : DE X c a wa) (hb : DE X c b wb) (hK : X.K = c.K := by rfl) : DE X c (.BinOp a .Mult b pos) (w2 (v2 gMulX) wa wb) := d_op (OpR.or (OpR.or op_mul op_rep) op_repN) (snd2 (by rw [hK]; exact ok_mulX)) ha hb
end
end Tr
namespace Tr
open PySem PySem.Spec PyProof.Rows L2
/-! ### bools among ints, a text so many times, great products -/
section
variable {X : Cx} {c : Ct} {a b : Expr} {wa wb : WE} {pos : Pos}
def b01 (k : Bool) : Int := if k = true then 1 else 0
theorem op_add_bi : OpR X (binaryOp .Add) (fun x y H Q => ∃ k i, x = .bl k ∧ y = .int i ∧ Q (.int (b01 k + i)) H) := by
  intro pins s σ H x y v u Q I rx ry h
  obtain ⟨k, i, rfl, rfl, q⟩ := h
  obtain ⟨t, rfl⟩ := ry
  cases rx
  exact PySem.IntBool.add_bool_int ⟨.int (b01 k + i), H, I.tok _, ⟨_, rfl⟩, q⟩
theorem op_sub_bi : OpR X (binaryOp .Sub) (fun x y H Q => ∃ k i, x = .bl k ∧ y = .int i ∧ Q (.int (b01 k - i)) H) := by
  intro pins s σ H x y v u Q I rx ry h
  obtain ⟨k, i, rfl, rfl, q⟩ := h
  obtain ⟨t, rfl⟩ := ry
  cases rx
  exact PySem.IntBool.sub_bool_int ⟨.int (b01 k - i), H, I.tok _, ⟨_, rfl⟩, q⟩
def strRep (x : Str) (k : Nat) : Str := ⟨(List.replicate k x.cps).foldl (· ++ ·) #[]⟩
def rStrRep : R2 := fun x y H Q => ∃ z k, x = .str z ∧ y = .int k ∧ (2 ≤ k ∧ k ≤ 100000 ∧ 1 ≤ z.length ∧ z.length ≤ 100) ∧ Q (.str (strRep z k.toNat)) H
theorem rep_size (z : Array Nat) : ∀ (n : Nat) (acc : Array Nat), ((List.replicate n z).foldl (· ++ ·) acc).size = acc.size + n * z.size
  | 0, acc => by simp
  | n + 1, acc => by
    rw [List.replicate_succ, List.foldl_cons, rep_size z n, Array.size_append, Nat.succ_mul]
    omega
theorem op_strRep : OpR X (binaryOp .Mult) rStrRep := by
  intro pins s σ H x y v u Q I rx ry h
  obtain ⟨z, k, rfl, rfl, ⟨h1, h2, h3, h4⟩, q⟩ := h
  obtain ⟨t, rfl⟩ := rx
  obtain ⟨t2, rfl⟩ := ry
  have e2 : (k == 1 || z.length == 0) = false := by
    rw [Bool.or_eq_false_iff]
    exact ⟨beq_eq_false_iff_ne.mpr (by omega), beq_eq_false_iff_ne.mpr (by omega)⟩
  have hm : z.length * k.toNat ≤ 100 * 100000 := Nat.mul_le_mul h4 (by omega)
  refine PySem.P.mul_str (by rw [decide_eq_false (by omega), decide_eq_false (by omega)]; rfl) (fun _ _ => ?_) (fun _ _ => ?_) ?_
  · have e : (2 ^ 63 - 1 : Int) / k ≥ (2 ^ 63 - 1) / 100000 := by
      have := Int.ediv_le_ediv (a := (2 ^ 63 - 1 : Int)) (b := 2 ^ 63 - 1) (c := 100000) (by decide) (Int.le_refl _)
      refine Int.le_ediv_of_mul_le (by omega) ?_
      have h5 : ((2 ^ 63 - 1 : Int) / 100000) * k ≤ ((2 ^ 63 - 1 : Int) / 100000) * 100000 := Int.mul_le_mul_of_nonneg_left h2 (by decide)
      have h6 : ((2 ^ 63 - 1 : Int) / 100000) * 100000 ≤ 2 ^ 63 - 1 := by decide
      omega
    have e3 : (2 ^ 63 - 1 : Int) / 100000 ≥ 1000 := by decide
    omega
  · unfold PySem.Builtin.Str.tooLong
    rw [decide_eq_false]
    rw [sizeLine_eq]
    omega
  · rw [if_neg (by omega), if_neg (by rw [e2]; exact nofun)]
    refine ⟨?_, .str _, H, I.tok _, ⟨_, rfl⟩, q⟩
    have hs := rep_size z.cps k.toNat #[]
    show (strRep z k.toNat).length ≤ sizeLine
    have h5 : (strRep z k.toNat).length = ((List.replicate k.toNat z.cps).foldl (· ++ ·) #[]).size := rfl
    have h6 : z.cps.size = z.length := rfl
    have h7 : (#[] : Array Nat).size = 0 := rfl
    have h8 : k.toNat * z.cps.size = z.length * k.toNat := by rw [h6, Nat.mul_comm]
    rw [h5, sizeLine_eq]
    omega
def gAddB : D → D → (R → Prop) → Prop := fun d e q => match d, e with
  | .bool k, .int i => q (.im (.int (b01 k + i)))
  | d, e => gAdd d e q
def gSubB : D → D → (R → Prop) → Prop := fun d e q => match d, e with
  | .bool k, .int i => q (.im (.int (b01 k - i)))
  | d, e => gSub d e q
/-- products of any size that fits, a text so many times -/
def gMulY : D → D → (R → Prop) → Prop := fun d e q => match d, e with
  | .str z, .int k => (2 ≤ k ∧ k ≤ 100000 ∧ 1 ≤ z.length ∧ z.length ≤ 100) ∧ q (.im (.str (strRep z k.toNat)))
  | .int i, .int j => CMulW i j ∧ q (.im (.int (i * j)))
  | d, e => gMulX d e q
theorem ok_addB : Ok2 c (fun x y H Q => opAdd c.K x y H Q ∨ ∃ k i, x = .bl k ∧ y = .int i ∧ Q (.int (b01 k + i)) H) gAddB := fun G H σ ρ v v' r r' d e Qd Q rl rr rr' h1 h2 q hg => by
  by_cases z : (∃ k, d = .bool k) ∧ ∃ i, e = .int i
  · obtain ⟨⟨k, rfl⟩, i, rfl⟩ := z
    have e1 : v = .bl k := vw_flat rl rr h1 rfl
    have e2 := vw_int rl rr' h2
    subst e1 e2
    exact .inr ⟨k, i, rfl, rfl, got_flat hg rl rfl q⟩
  · have q' : gAdd d e (fun r => Qd r ρ) := by
      cases d <;> first | exact q | (cases e <;> first | exact q | exact absurd ⟨⟨_, rfl⟩, _, rfl⟩ z)
    exact .inl (ok_add G H σ ρ v v' r r' d e Qd Q rl rr rr' h1 h2 q' hg)
theorem ok_subB : Ok2 c (fun x y H Q => rI0 (fun i j => .int (i - j)) x y H Q ∨ ∃ k i, x = .bl k ∧ y = .int i ∧ Q (.int (b01 k - i)) H) gSubB := fun G H σ ρ v v' r r' d e Qd Q rl rr rr' h1 h2 q hg => by
  by_cases z : (∃ k, d = .bool k) ∧ ∃ i, e = .int i
  · obtain ⟨⟨k, rfl⟩, i, rfl⟩ := z
    have e1 : v = .bl k := vw_flat rl rr h1 rfl
    have e2 := vw_int rl rr' h2
    subst e1 e2
    exact .inr ⟨k, i, rfl, rfl, got_flat hg rl rfl q⟩
  · have q' : gSub d e (fun r => Qd r ρ) := by
      cases d <;> first | exact q | (cases e <;> first | exact q | exact absurd ⟨⟨_, rfl⟩, _, rfl⟩ z)
    exact .inl (ok_I0 (f := fun i j => .int (i - j)) (fun _ _ => rfl) G H σ ρ v v' r r' d e Qd Q rl rr rr' h1 h2 q' hg)
theorem ok_mulY : Ok2 c (fun x y H Q => ((rI CMul (fun i j => .int (i * j)) x y H Q ∨ rRep x y H Q) ∨ rRepN c.K x y H Q) ∨ (rI CMulW (fun i j => .int (i * j)) x y H Q ∨ rStrRep x y H Q)) gMulY := fun G H σ ρ v v' r r' d e Qd Q rl rr rr' h1 h2 q hg => by
  by_cases z : ((∃ k, d = .str k) ∨ ∃ i, d = .int i) ∧ ∃ i, e = .int i
  · obtain ⟨⟨k, rfl⟩ | ⟨k, rfl⟩, i, rfl⟩ := z
    · have e1 : v = .str k := vw_flat rl rr h1 rfl
      have e2 := vw_int rl rr' h2
      subst e1 e2
      exact .inr (.inr ⟨k, i, rfl, rfl, q.1, got_flat hg rl rfl q.2⟩)
    · have e1 := vw_int rl rr h1
      have e2 := vw_int rl rr' h2
      subst e1 e2
      exact .inr (.inl ⟨k, i, rfl, rfl, q.1, got_flat hg rl rfl q.2⟩)
  · have q' : gMulX d e (fun r => Qd r ρ) := by
      cases d <;> first | exact q | (cases e <;> first | exact q | exact absurd ⟨.inl ⟨_, rfl⟩, _, rfl⟩ z | exact absurd ⟨.inr ⟨_, rfl⟩, _, rfl⟩ z)
    exact .inl (ok_mulX G H σ ρ v v' r r' d e Qd Q rl rr rr' h1 h2 q' hg)
theorem d_addB (ha : DE X c a wa) (hb : DE X c b wb) (hK : X.K = c.K := by rfl) : DE X c (.BinOp a .Add b pos) (w2 (v2 gAddB) wa wb) := d_op (OpR.or or_add op_add_bi) (snd2 (by rw [hK]; exact ok_addB)) ha hb
theorem d_subB (ha : DE X c a wa) (hb : DE X c b wb) : DE X c (.BinOp a .Sub b pos) (w2 (v2 gSubB) wa wb) := d_op (OpR.or op_sub op_sub_bi) (snd2 ok_subB) ha hb
theorem d_mulY (ha : DE X c a wa) (hb : DE X c b wb) (hK : X.K = c.K := by rfl) : DE X c (.BinOp a .Mult b pos) (w2 (v2 gMulY) wa wb) := d_op (OpR.or (OpR.or (OpR.or op_mul op_rep) op_repN) (OpR.or op_mulW op_strRep)) (snd2 (by rw [hK]; exact ok_mulY)) ha hb
end
end Tr
namespace Tr
open PySem L2
/-! ### a call that reads what is lent to it, and answers with a flat value -/
def lendp : List R → Rn → (List Sl → Prop) → Prop
  | [], _, Q => Q []
  | .pot :: rs, ρ, Q => lendp rs ρ fun ss => Q (.pot :: ss)
  | r :: rs, ρ, Q => (match vw ρ r with
    | some d => lendp rs ρ fun ss => Q (.im d :: ss)
    | none => False)
def flatQ : R → Prop → Prop
  | .im .none, q => q
  | .im (.bool _), q => q
  | .im (.int _), q => q
  | .im (.str _), q => q
  | _, _ => False
theorem vw_setim {ρ : Rn} {i : Nat} {l : Bool} {ds : List D} (e : ρ[i]? = some (.own l (.l ds))) (r : R) : vw (ρ.set i (.im (.list ds))) r = vw ρ r := by
  cases r with
  | sl j =>
    have e0 : ∀ ρ : Rn, vw ρ (.sl j) = (match ρ[j]? with
      | some (.own _ (.l ds)) => some (.list ds)
      | some (.im d) => some d
      | _ => none) := fun _ => rfl
    rw [e0, e0]
    by_cases hij : i = j
    · subst hij
      have hi := (List.getElem?_eq_some_iff.mp e).1
      rw [List.getElem?_set_self hi, e]
    · rw [List.getElem?_set_ne hij]
  | tm o => cases o <;> rfl
  | _ => rfl
theorem lend_fz : ∀ {rs : List R} {ρ ρ' : Rn} {Q : List Sl → Prop}, lendp rs ρ Q → (∀ r, vw ρ' r = vw ρ r) → fzp rs ρ' fun ss _ => Q ss
  | [], ρ, ρ', Q, h, _ => h
  | r :: rs, ρ, ρ', Q, h, e => by
    cases r with
    | pot => exact lend_fz (rs := rs) h e
    | im d => exact lend_fz (rs := rs) (Q := fun ss => Q (.im d :: ss)) h e
    | dead => exact h.elim
    | tm o =>
      cases o with
      | l ds => exact lend_fz (rs := rs) (Q := fun ss => Q (.im (.list ds) :: ss)) h e
      | d kvs => exact h.elim
      | t kvs => exact h.elim
    | sl i =>
      have h' : (match vw ρ (.sl i) with
        | some d => lendp rs ρ fun ss => Q (.im d :: ss)
        | none => False) := h
      show fz (.sl i) ρ' fun d ρ1 => fzp rs ρ1 fun ss _ => Q (.im d :: ss)
      rw [← e (.sl i)] at h'
      unfold vw at h'
      unfold fz
      show (match ρ'[i]? with
        | some (.own _ (.l ds)) => (fzp rs (ρ'.set i (.im (.list ds))) fun ss _ => Q (.im (.list ds) :: ss))
        | some (.im d) => (fzp rs ρ' fun ss _ => Q (.im d :: ss))
        | _ => False)
      have h2 : (match (match ρ'[i]? with
        | some (.own _ (.l ds)) => some (.list ds)
        | some (.im d) => some d
        | _ => none : Option D) with
        | some d => lendp rs ρ fun ss => Q (.im d :: ss)
        | none => False) := h'
      cases e1 : ρ'[i]? with
      | none => rw [e1] at h2; exact h2.elim
      | some s =>
        rw [e1] at h2
        cases s with
        | no => exact h2.elim
        | pot => exact h2.elim
        | im d => exact lend_fz (rs := rs) (Q := fun ss => Q (.im d :: ss)) h2 e
        | own l o =>
          cases o with
          | d kvs => exact h2.elim
          | t kvs => exact h2.elim
          | l ds => exact lend_fz (rs := rs) (Q := fun ss => Q (.im (.list ds) :: ss)) h2 fun r => (vw_setim e1 r).trans (e r)
def wCallF (n np : Nat) (w : WS) (ws : WA) : WE := fun ρ Qd Qx => ws ρ (fun rs ρ1 => rs.length = np ∧ lendp rs ρ1 fun ss => fnW n w ss (fun r _ => flatQ r (Qd r ρ1)) fun _ => False) Qx
theorem sp_callF {c : Ct} {N : List Str} {np : Nat} {w : WS} {G H : Hp} {σ : L2.St} {ρ : Rn} {vs : List V} {rs : List R} {Qd : R → Rn → Prop} {Q : VK} {Ec : XK} (hnp : np ≤ N.length) (rl : Rel c.K c.pa c.le G H σ ρ) (rr : RRs c.K c.pa G H σ ρ vs rs) (hl : rs.length = np)
    (q : lendp rs ρ fun ss => fnW N.length w ss (fun r _ => flatQ r (Qd r ρ)) fun _ => False) (hQ : Got c G H σ ρ Qd Q) : spT c.K c.mg N np w vs H Q Ec := by
  obtain ⟨G1, ss, ρ2, n1, hh, q1⟩ := fzp_ok rl rr (lend_fz q fun _ => rfl)
  have hlv : vs.length = np := by rw [Paired.len' rr, hl]
  have hle : vs.length ≤ N.length := by rw [hlv]; exact hnp
  obtain ⟨rs', nown⟩ := rel_start (N := N) n1.r hh hle fun _ => none
  have cont : ∀ v r σ' ρ' G' H', Nw c.K c.pa (fun _ => none) G1 H (L2.start N vs) (ss ++ List.replicate (N.length - ss.length) .no) G' H' σ' ρ' → RR c.K c.pa G' H' σ' ρ' v r → flatQ r (Qd r ρ) → Q v H' := fun v r σ' ρ' G' H' n2 rr2 q2 => by
    have nb : Nw c.K c.pa c.le G H σ ρ G H' σ ρ := by
      refine ⟨⟨Same.refl G, fun b o e _ n3 => n2.a.h b o e (nown b) n3, fun b hb => .inl hb, n2.a.p⟩, Ow.refl, ⟨fun b o e => n2.r.ext b o (n2.a.g b o (n1.a.g b o e)), rl.len, fun i s e => ?_, rl.dis, fun p e => ⟨(n2.r.pot p e).1, (rl.pot p e).2⟩, rl.sep⟩⟩
      obtain ⟨ov, z1, z2⟩ := rl.sl i s e
      refine ⟨ov, z1, ?_⟩
      cases s with
      | no => trivial
      | im d => exact z2
      | own l ds =>
        obtain ⟨a, vs, z3, z4, z5, z6, z7⟩ := z2
        have ho : Own σ ρ a := ⟨i, l, ds, e, by rw [z1, z3]⟩
        exact ⟨a, vs, z3, z4, n2.a.h a _ z5 (nown a) (rl.sep a ho), z6, z7⟩
      | pot => exact z2
    cases r with
    | im d =>
      have h3 : Qd (.im d) ρ ∧ Rp c.K G v d := by
        have rr3 : Rp c.K G' v d := rr2
        cases d <;> first | exact q2.elim | exact ⟨q2, by cases rr3; constructor⟩
      exact hQ v (.im d) ρ G H' nb h3.2 trivial h3.1
    | tm o => cases o <;> exact q2.elim
    | _ => exact q2.elim
  refine ⟨hlv, c.pa, fun _ => none, G1, _, _, rs', q1.run, fun σ' ρ' G' H' n2 q2 => ?_, fun v r σ' ρ' G' H' n2 rr2 fr2 q2 => ?_, fun _ _ _ _ _ z => z.elim, fun _ _ _ _ _ z => z.elim, fun x cls d G' H' A s pk xr qx => qx.elim⟩
  · exact cont .non (.im .none) σ' ρ' G' H' n2 .non q2
  · cases r with
    | sl i => exact q2.elim
    | im d => exact cont v _ σ' ρ' G' H' n2 rr2 q2
    | tm ds => exact cont v _ σ' ρ' G' H' n2 rr2 q2
    | dead => exact cont v _ σ' ρ' G' H' n2 rr2 q2
    | pot => exact cont v _ σ' ρ' G' H' n2 rr2 q2
section
variable {X : Cx} {c : Ct} {k n np : Nat} {x : Str} {ps : List Str} {tw : WS} {p pos : Pos} {e : Expr} {es : List Expr} {ws : WA}
theorem d_fnF (F : Fk X.prog X.w X.K X.mg X.base k x ps n tw) (hK : X.K = c.K) (hM : X.mg = c.mg) (hr : Rm k X.A) (hg : Gl X x) (ha : DA X c (e :: es) ws) (hdb : (x == ("__debug__" : Str)) = false := by decide)
    (he : starEach (e :: es) X.env = (false, eval e X.env) :: starEach es X.env := by rfl) (hpl : (backTo pos (starEach es X.env)).any (·.1) = false := by rfl) (hnp : ps.length = np := by rfl) : DE X c (.Call (.Name x p) (e :: es) [] pos) (wCallF n np tw ws) := by
  subst hnp
  obtain ⟨f, fd, N, rfl, hp, F, h1, h2, h3, h4⟩ := F
  refine PEw (pe_callG F hr hg h1 h2 h3 .nil (E := E0) pass0 ha hdb he hpl) fun σ H Q ⟨G, ρ, Qd, Qx, rl, hw, hQ, hX⟩ => ?_
  refine ⟨G, ρ, _, Qx, rl, hw, fun vs rs ρ1 G1 H1 n1 rr q => ?_, hX⟩
  obtain ⟨hl, q⟩ := q
  rw [List.append_nil, hK, hM]
  exact sp_callF hp n1.r rr hl q fun v r ρ' G' H' n2 rr2 fr2 q2 => hQ v r ρ' G' H' (n1.trans rl n2) rr2 (fr2.trans n1) q2
end
end Tr

namespace Tr
open PySem L2

section
variable {X : Cx} {c : Ct} {a b e : Expr} {wa wb : WE} {pos p : Pos} {k : Nat} {x : Str}
/-! ### comparisons of data that are alike -/
def rCmpD (f : D → D → Bool) (K : PySem.W.Frag) : R2 := fun x y H Q => ∃ d e, Dp K H x d ∧ Dp K H y e ∧ PySem.W.alike d e = true ∧ d ≠ .none ∧ d.depth ≤ 60 ∧ Q (.bl (f d e)) H
theorem op_ltA (hu : X.A.units + 66 < cLine) : OpR X (compareOp .Lt) (rCmpD (fun d e => PySem.W.dataLt d e) X.K) := by
  intro pins s σ H x y v u Q I rx ry h
  obtain ⟨d, e, hd, he, ha, hn, hdp, q⟩ := h
  obtain ⟨as, r1⟩ := Dp.reads I d x v hd rx
  obtain ⟨bs, r2⟩ := Dp.reads I e y u he ry
  exact PySem.W.lt_data r1 r2 ha hn (by have := Nat.min_le_left d.depth e.depth; omega) ⟨.bl _, H, I, rfl, q⟩
theorem op_gtA (hu : X.A.units + 66 < cLine) : OpR X (compareOp .Gt) (rCmpD (fun d e => PySem.W.dataLt e d) X.K) := by
  intro pins s σ H x y v u Q I rx ry h
  obtain ⟨d, e, hd, he, ha, hn, hdp, q⟩ := h
  obtain ⟨as, r1⟩ := Dp.reads I d x v hd rx
  obtain ⟨bs, r2⟩ := Dp.reads I e y u he ry
  exact PySem.W.gt_data r1 r2 ha hn (by have := Nat.min_le_left d.depth e.depth; omega) ⟨.bl _, H, I, rfl, q⟩
theorem op_leA (hu : X.A.units + 66 < cLine) : OpR X (compareOp .LtE) (rCmpD (fun d e => !PySem.W.dataLt e d) X.K) := by
  intro pins s σ H x y v u Q I rx ry h
  obtain ⟨d, e, hd, he, ha, hn, hdp, q⟩ := h
  obtain ⟨as, r1⟩ := Dp.reads I d x v hd rx
  obtain ⟨bs, r2⟩ := Dp.reads I e y u he ry
  exact PySem.W.le_data r1 r2 ha hn (by have := Nat.min_le_left d.depth e.depth; omega) ⟨.bl _, H, I, rfl, q⟩
theorem op_geA (hu : X.A.units + 66 < cLine) : OpR X (compareOp .GtE) (rCmpD (fun d e => !PySem.W.dataLt d e) X.K) := by
  intro pins s σ H x y v u Q I rx ry h
  obtain ⟨d, e, hd, he, ha, hn, hdp, q⟩ := h
  obtain ⟨as, r1⟩ := Dp.reads I d x v hd rx
  obtain ⟨bs, r2⟩ := Dp.reads I e y u he ry
  exact PySem.W.ge_data r1 r2 ha hn (by have := Nat.min_le_left d.depth e.depth; omega) ⟨.bl _, H, I, rfl, q⟩
/-- two ints by their order, other data that are alike by theirs -/
def gCmp (g : Int → Int → Bool) (f : D → D → Bool) : D → D → (R → Prop) → Prop := fun d e q => match d, e with
  | .int i, .int j => q (.im (.bool (hid (g i j))))
  | d, e => (PySem.W.alike d e = true ∧ d ≠ .none ∧ d.depth ≤ 60 ∧ d.hasDict = false ∧ e.hasDict = false) ∧ q (.im (.bool (hid (f d e))))
theorem two_int (d e : D) : (∃ i j, d = .int i ∧ e = .int j) ∨ ¬ ∃ i j, d = .int i ∧ e = .int j := Classical.em _
theorem gCmp_ne {g : Int → Int → Bool} {f : D → D → Bool} {d e : D} {q : R → Prop} (n : ¬ ∃ i j, d = .int i ∧ e = .int j) (h : gCmp g f d e q) : (PySem.W.alike d e = true ∧ d ≠ .none ∧ d.depth ≤ 60 ∧ d.hasDict = false ∧ e.hasDict = false) ∧ q (.im (.bool (hid (f d e)))) := by
  unfold gCmp at h
  split at h
  · exact absurd ⟨_, _, rfl, rfl⟩ n
  · exact h
theorem ok_cmp {g : Int → Int → Bool} {f : D → D → Bool} : Ok2 c (fun x y H Q => rI0 (fun i j => .bl (g i j)) x y H Q ∨ rCmpD f c.K x y H Q) (gCmp g f) := fun G H σ ρ v v' r r' d e Qd Q rl rr rr' h1 h2 q hg => by
  rcases two_int d e with ⟨i, j, rfl, rfl⟩ | n
  · have e1 := vw_flat rl rr h1 (x := .int i) rfl
    have e2 := vw_flat rl rr' h2 (x := .int j) rfl
    subst e1 e2
    exact .inl ⟨i, j, rfl, rfl, got_flat hg rl (flat_hid _) q⟩
  · obtain ⟨⟨ha, hn, hdp, hd1, hd2⟩, q⟩ := gCmp_ne n q
    exact .inr ⟨d, e, Rp.dp _ _ (vw_ok rl rr h1) hd1, Rp.dp _ _ (vw_ok rl rr' h2) hd2, ha, hn, hdp, got_flat hg rl (flat_hid _) q⟩
abbrev cLt := gCmp (fun i j => decide (i < j)) fun d e => PySem.W.dataLt d e
abbrev cLe := gCmp (fun i j => decide (i ≤ j)) fun d e => !PySem.W.dataLt e d
abbrev cGt := gCmp (fun i j => decide (j < i)) fun d e => PySem.W.dataLt e d
abbrev cGe := gCmp (fun i j => decide (j ≤ i)) fun d e => !PySem.W.dataLt d e
theorem d_ltA (hr : Rm k X.A) (ha : DE X c a wa) (hb : DE X c b wb) (hK : X.K = c.K := by rfl) : DE X c (.Compare a [.Lt] [b] pos) (w2 (v2 cLt) wa wb) := d_cmp (OpR.or op_lt (op_ltA hr.u66)) (snd2 (by rw [hK]; exact ok_cmp)) ha hb (nomark _)
theorem d_leA (hr : Rm k X.A) (ha : DE X c a wa) (hb : DE X c b wb) (hK : X.K = c.K := by rfl) : DE X c (.Compare a [.LtE] [b] pos) (w2 (v2 cLe) wa wb) := d_cmp (OpR.or op_le (op_leA hr.u66)) (snd2 (by rw [hK]; exact ok_cmp)) ha hb (nomark _)
theorem d_gtA (hr : Rm k X.A) (ha : DE X c a wa) (hb : DE X c b wb) (hK : X.K = c.K := by rfl) : DE X c (.Compare a [.Gt] [b] pos) (w2 (v2 cGt) wa wb) := d_cmp (OpR.or op_gt (op_gtA hr.u66)) (snd2 (by rw [hK]; exact ok_cmp)) ha hb (nomark _)
theorem d_geA (hr : Rm k X.A) (ha : DE X c a wa) (hb : DE X c b wb) (hK : X.K = c.K := by rfl) : DE X c (.Compare a [.GtE] [b] pos) (w2 (v2 cGe) wa wb) := d_cmp (OpR.or op_ge (op_geA hr.u66)) (snd2 (by rw [hK]; exact ok_cmp)) ha hb (nomark _)
theorem d_tltA (hr : Rm k X.A) (ha : DE X c a wa) (hb : DE X c b wb) (hK : X.K = c.K := by rfl) : DT X c (.Compare a [.Lt] [b] pos) (wT (w2 (v2 cLt) wa wb)) := d_tcmp (OpR.or op_lt (op_ltA hr.u66)) (snd2 (by rw [hK]; exact ok_cmp)) ha hb (nomark _)
theorem d_tleA (hr : Rm k X.A) (ha : DE X c a wa) (hb : DE X c b wb) (hK : X.K = c.K := by rfl) : DT X c (.Compare a [.LtE] [b] pos) (wT (w2 (v2 cLe) wa wb)) := d_tcmp (OpR.or op_le (op_leA hr.u66)) (snd2 (by rw [hK]; exact ok_cmp)) ha hb (nomark _)
theorem d_tgtA (hr : Rm k X.A) (ha : DE X c a wa) (hb : DE X c b wb) (hK : X.K = c.K := by rfl) : DT X c (.Compare a [.Gt] [b] pos) (wT (w2 (v2 cGt) wa wb)) := d_tcmp (OpR.or op_gt (op_gtA hr.u66)) (snd2 (by rw [hK]; exact ok_cmp)) ha hb (nomark _)
theorem d_tgeA (hr : Rm k X.A) (ha : DE X c a wa) (hb : DE X c b wb) (hK : X.K = c.K := by rfl) : DT X c (.Compare a [.GtE] [b] pos) (wT (w2 (v2 cGe) wa wb)) := d_tcmp (OpR.or op_ge (op_geA hr.u66)) (snd2 (by rw [hK]; exact ok_cmp)) ha hb (nomark _)

/-! ### zip of two lists, of two tuples -/
def zipD : List D → List D → List D
  | a :: as, b :: bs => .tuple [a, b] :: zipD as bs
  | _, _ => []
theorem zipD_get : ∀ {as bs : List D} {i : Nat} {d : D}, (zipD as bs)[i]? = some d → ∃ x y, as[i]? = some x ∧ bs[i]? = some y ∧ d = .tuple [x, y]
  | a :: as, b :: bs, 0, d, h => by cases h; exact ⟨_, _, rfl, rfl, rfl⟩
  | a :: as, b :: bs, i + 1, d, h => zipD_get (as := as) (bs := bs) (i := i) h
  | [], _, _, _, h => by cases h
  | _ :: _, [], _, _, h => by cases h
theorem zipD_len : ∀ (as bs : List D), (zipD as bs).length = min as.length bs.length
  | a :: as, b :: bs => by rw [zipD, List.length_cons, zipD_len as bs, List.length_cons, List.length_cons]; omega
  | [], _ => by rw [zipD]; exact (Nat.zero_min _).symm; exact nofun
  | _ :: _, [] => rfl
theorem wk_zipL {K : PySem.W.Frag} {G : Hp} {a b : Addr} {vs ws : List V} {ds es : List D} (h : G a = some (.lst vs)) (h' : G b = some (.lst ws)) (ra : RpAll K G vs ds) (rb : RpAll K G ws es) : Wk true K (Itz K a b) (zipD ds es) G := fun G1 H1 s1 s2 i => by
  have hs : SqL K H1 a vs := SqL.of (s2 _ _ (s1 _ _ h))
  have hs' : SqL K H1 b ws := SqL.of (s2 _ _ (s1 _ _ h'))
  refine ⟨fun d hd => ?_, fun e => ⟨vs, ws, hs, hs', by rw [RpAll.length ra, RpAll.length rb]; rw [zipD_len] at e; omega⟩⟩
  obtain ⟨x, y, hx, hy, rfl⟩ := zipD_get hd
  obtain ⟨v, h1, h2⟩ := RpAll.get ra hx
  obtain ⟨w, h3, h4⟩ := RpAll.get rb hy
  refine ⟨⟨vs, ws, v, w, hs, hs', h1, h3⟩, fun z H2 hy => .inr ⟨rfl, ?_⟩⟩
  obtain ⟨T, x1, y1, rfl, hT, e2, hx1, hy1⟩ := hy
  have e := hx1 vs hs
  have e' := hy1 ws hs'
  rw [h1] at e
  rw [h3] at e'
  cases e
  cases e'
  exact ⟨T, _, _, hT, e2, rfl, rfl, .cons (Rp.mono s1 _ _ h2) (.cons (Rp.mono s1 _ _ h4) .nil)⟩
theorem wk_zipT {K : PySem.W.Frag} {G : Hp} {a b : Addr} {vs ws : List V} {ds es : List D} (h : TupK K G a vs) (h' : TupK K G b ws) (ra : RpAll K G vs ds) (rb : RpAll K G ws es) : Wk true K (RZ.ItzT K a b) (zipD ds es) G := fun G1 H1 s1 s2 i => by
  have hs : SqT K H1 a vs := ((h.mono s1).mono s2).sq
  have hs' : SqT K H1 b ws := ((h'.mono s1).mono s2).sq
  refine ⟨fun d hd => ?_, fun e => ⟨vs, ws, hs, hs', by rw [RpAll.length ra, RpAll.length rb]; rw [zipD_len] at e; omega⟩⟩
  obtain ⟨x, y, hx, hy, rfl⟩ := zipD_get hd
  obtain ⟨v, h1, h2⟩ := RpAll.get ra hx
  obtain ⟨w, h3, h4⟩ := RpAll.get rb hy
  refine ⟨⟨vs, ws, v, w, hs, hs', h1, h3⟩, fun z H2 hy => .inr ⟨rfl, ?_⟩⟩
  obtain ⟨T, x1, y1, rfl, hT, e2, hx1, hy1⟩ := hy
  have e := hx1 vs hs
  have e' := hy1 ws hs'
  rw [h1] at e
  rw [h3] at e'
  cases e
  cases e'
  exact ⟨T, _, _, hT, e2, rfl, rfl, .cons (Rp.mono s1 _ _ h2) (.cons (Rp.mono s1 _ _ h4) .nil)⟩
def zipQ (Q : List D → Prop) : List D → Prop
  | [.list ds, .list es] => Q (zipD ds es)
  | [.tuple ds, .tuple es] => Q (zipD ds es)
  | _ => False
def wiZ (ws : WA) : WI := fun ρ Qd Qx => ws ρ (fun rs ρ1 => rs.length = 2 ∧ fzs rs ρ1 fun ds ρ2 => zipQ (fun zs => Qd zs ρ2) ds) Qx
theorem d_iZ {ws : WA} {tpos : Pos} {elts : List Expr} {kk : Nat} (hg : Gl X "zip") (hm : X.mg "zip" = none) (ha : DA X c [e, b] ws) (hs : starEach [e, b] X.env = (false, eval e X.env) :: starEach [b] X.env := by rfl) (hpl : (backTo pos (starEach [b] X.env)).any (·.1) = false := by rfl) (hK : X.K = c.K := by rfl) :
    DI true X c (.Tuple elts kk tpos) (.Call (.Name "zip" p) [e, b] [] pos) (wiZ ws) :=
  PIw (RZ.pi_zipA hg hm ha hs hpl) fun σ H R0 ⟨G, ρ, Qd, Qx, rl, hw, hQ, hX⟩ => ⟨G, ρ, _, Qx, rl, hw, fun vs rs ρ1 G1 H1 n1 rr ⟨q0, q⟩ => by
    obtain ⟨G2, ds, ρ2, n2, ra, q2⟩ := fzs_ok n1.r rr q
    have n3 := n1.trans rl n2
    rw [hK]
    unfold zipQ at q2
    split at q2
    · cases ra with
      | cons h1 t =>
        cases t with
        | cons h2 t =>
          cases t
          cases h1 with
          | lst a1 a2 =>
            cases h2 with
            | lst b1 b2 => exact ⟨_, _, _, _, rfl, .inl ⟨SqL.of (n3.r.ext _ _ a1), SqL.of (n3.r.ext _ _ b1), hQ _ ρ2 G2 H1 _ n3 (wk_zipL a1 b1 a2 b2) q2⟩⟩
    · cases ra with
      | cons h1 t =>
        cases t with
        | cons h2 t =>
          cases t
          cases h1 with
          | tup a1 a2 =>
            cases h2 with
            | tup b1 b2 => exact ⟨_, _, _, _, rfl, .inr ⟨(a1.mono n3.r.ext).sq, (b1.mono n3.r.ext).sq, hQ _ ρ2 G2 H1 _ n3 (wk_zipT a1 b1 a2 b2) q2⟩⟩
    · exact q2.elim, hX⟩
end
end Tr

namespace Tr
open PySem L2
/-! ### a, b, c = x, y, z -/
def wPar3 (i j l : Nat) (wa wb wd : WE) : WS := fun P ρ => wa ρ (fun r ρ1 => hold r ρ1 fun r1 ρ2 => wb ρ2 (fun r' ρ3 => hold r' ρ3 fun r2 ρ4 => wd ρ4 (fun r'' ρ5 => hold r'' ρ5 fun r3 ρ6 => st i r1 ρ6 fun ρ7 => st j r2 ρ7 fun ρ8 => st l r3 ρ8 P.nx) P.ex) P.ex) P.ex
section
variable {X : Cx} {c : Ct} {a b d : Expr} {pos : Pos} {wa wb wd : WE}
theorem not_same {G H : Hp} {σ : L2.St} {ρ ρ' : Rn} {v v' : V} {r r' : R} (h : RR c.K c.pa G H σ ρ v r) (fr : Frs H σ ρ v' r') {ds ds' : Ob} {b : Addr} (e1 : r = .tm ds) (e2 : r' = .tm ds') (e3 : v = .ref b) : v' ≠ .ref b := fun e4 => by
  subst e1 e2
  obtain ⟨a1, vs1, f1, _, f3, _, f5, _⟩ := h
  rw [e3] at f1; cases f1
  rcases fr b e4 with z | z
  · rw [f3] at z; cases z
  · exact f5 z
theorem d_par3 {i j l : Nat} {x y z : Str} {px py pz pt : Pos} {kt k2 : Nat} {pt2 : Pos} (hc : X.calm = true) (hN : X.N.Nodup) (hi : X.N[i]? = some x) (hj : X.N[j]? = some y) (hl : X.N[l]? = some z) (hij : i ≠ j) (hil : i ≠ l) (hjl : j ≠ l)
    (hx : X.env.scope.names.lookup x = some .local) (hy : X.env.scope.names.lookup y = some .local) (hz : X.env.scope.names.lookup z = some .local)
    (ha : DE X c a wa) (hb : DE X c b wb) (hd : DE X c d wd) (hw : swappedStores [.Tuple [.Name x px, .Name y py, .Name z pz] kt pt] (.Tuple [a, b, d] k2 pt2) X.env = pure (some [x, y, z]))
    (hsa : starEach [a, b, d] X.env = (false, eval a X.env) :: starEach [b, d] X.env := by rfl) (hsb : starEach [b, d] X.env = (false, eval b X.env) :: starEach [d] X.env := by rfl) (hsd : starEach [d] X.env = (false, eval d X.env) :: starEach [] X.env := by rfl)
    (hs : swapsWithSole [.Tuple [.Name x px, .Name y py, .Name z pz] kt pt] (.Tuple [a, b, d] k2 pt2) pos.line X.env = pure false := by rfl) :
    DS X c (.Assign [.Tuple [.Name x px, .Name y py, .Name z pz] kt pt] (.Tuple [a, b, d] k2 pt2) pos) (wPar3 i j l wa wb wd) :=
  PSw (ps_par3 hc hN hi hj hl hij hil hjl hx hy hz (pa_cons ha (pa_cons hb (pa_cons hd pa_nil hsd) hsb) hsa) hw hs) fun D σ H ⟨G, ρ, P, rl, hw, g1, g2, g3, g4, g5⟩ => ⟨G, ρ, _, P.ex, rl, hw, fun v r ρ1 G1 H1 n1 rr fr q => by
    obtain ⟨G2, ρ2, r1, n2, _, rr1, fr1, l1, q1⟩ := hold_ok rl n1 rr fr q
    refine ⟨G2, ρ2, _, P.ex, n2.r, q1, fun v' r' ρ3 G3 H3 n3 rr3 fr3 q3 => ?_, g5.trans rl n2⟩
    obtain ⟨G4, ρ4, r2, n4, n34, rr4, fr4, l4, q4⟩ := hold_ok n2.r n3 rr3 fr3 q3
    have n24 := n2.trans rl n4
    refine ⟨G4, ρ4, _, P.ex, n4.r, q4, fun v'' r'' ρ5 G5 H5 n5 rr5 fr5 q5 => ?_, g5.trans rl n24⟩
    obtain ⟨G6, ρ6, r3, n6, n56, rr6, fr6, l6, q6⟩ := hold_ok n4.r n5 rr5 fr5 q5
    have nA := n24.trans rl n6
    have rr1m := RR.thru rr1 l1 n4
    have rr1' := RR.thru rr1m l1 n6
    have rr4' := RR.thru rr4 l4 n6
    obtain ⟨ρ7, n7, q7, o7⟩ := stl_ok rl nA rr1' fr1 l1 q6
    have a4 : RR c.K c.pa G6 H5 (σ.set i (some v)) ρ7 v' r2 := RR.beside rr4' l4 fun b ds e1 e2 z => by
      rcases o7 b z with y | ⟨y, ds2, e3⟩
      · subst e1
        obtain ⟨a, vs, e4, _, _, _, n1, _⟩ := rr4'
        rw [e2] at e4; cases e4
        exact n1 y
      · exact not_same rr1 fr4 e3 e1 y e2 (ρ' := ρ)
    obtain ⟨ρ8, n8, q8, o8⟩ := stl_ok rl n7 a4 (fr4.trans n2) l4 q7
    have a6 : RR c.K c.pa G6 H5 ((σ.set i (some v)).set j (some v')) ρ8 v'' r3 := RR.beside rr6 l6 fun b ds e1 e2 z => by
      rcases o8 b z with y | ⟨y, ds2, e3⟩
      · rcases o7 b y with y | ⟨y, ds2, e3⟩
        · subst e1
          obtain ⟨a, vs, e4, _, _, _, n1, _⟩ := rr6
          rw [e2] at e4; cases e4
          exact n1 y
        · exact not_same rr1m fr6 e3 e1 y e2 (ρ' := ρ)
      · exact not_same rr4 fr6 e3 e1 y e2 (ρ' := ρ)
    obtain ⟨ρ9, n9, q9, _⟩ := stl_ok rl n8 a6 (fr6.trans n24) l6 q8
    exact ⟨v, v', v'', rfl, g1 _ _ _ _ n9 q9⟩, g5⟩
end
end Tr

namespace Tr
open PySem L2
/-! ### comprehensions over data -/
/-- what passes and is told, item by item -/
theorem wCmp_fm {vs : List Nat} {g : WG} {t : WT} {we : WE} {Q : List D → Rn → Prop} (ds : List D) (f : D → Option D) {ρ : Rn} (hl : ds.length ≤ 100000)
    (hs : ∀ (d : D) (N : D → Rn → Prop) (M : Rn → Prop), d ∈ ds → (∀ y, f d = some y → ∀ ρ', wipeR vs ρ' = wipeR vs ρ → N y ρ') → (f d = none → ∀ ρ', wipeR vs ρ' = wipeR vs ρ → M ρ') →
      g d (wipeR vs ρ) (fun ρ1 => t ρ1 (fun k ρ2 => IfW k (we ρ2 (fun r ρ3 => fz r ρ3 N) (fun _ => False)) (M ρ2)) fun _ => False) fun _ => False)
    (hd : ∀ ρ', wipeR vs ρ' = wipeR vs ρ → Q (ds.filterMap f) ρ') : CmpW vs g t we ds ρ Q := by
  refine wCmp_inv ds (fun i acc ρ' => acc = (ds.take i).filterMap f ∧ wipeR vs ρ' = wipeR vs ρ) ⟨rfl, rfl⟩ (fun i d acc ρ1 N he ⟨ha, hw⟩ hN => ?_) fun acc ρ1 ⟨ha, hw⟩ => ?_
  · have ht : ds.take (i + 1) = ds.take i ++ [d] := by rw [List.take_add_one, he]; rfl
    rw [hw]
    refine hs d (fun y ρ4 => acc.length < 100000 ∧ N (acc ++ [y]) ρ4) (fun ρ2 => N acc ρ2) (List.mem_of_getElem? he) (fun y hf ρ' h => ⟨?_, hN _ _ ⟨?_, h⟩⟩) fun hf ρ' h => hN _ _ ⟨?_, h⟩
    · have h1 : ((ds.take i).filterMap f).length ≤ (ds.take i).length := List.length_filterMap_le _ _
      have h2 := (List.getElem?_eq_some_iff.mp he).1
      rw [List.length_take] at h1
      rw [ha]
      omega
    · rw [ha, ht, List.filterMap_append, List.filterMap_cons_some hf]
      rfl
    · rw [ha, ht, List.filterMap_append, List.filterMap_cons_none hf]
      simp
  · subst ha
    rw [List.take_length]
    exact hd ρ1 hw
/-- a mark for each that passes -/
theorem wCmp_ones {vs : List Nat} {g : WG} {t : WT} {we : WE} {Q : List D → Rn → Prop} (ds : List D) (P : D → Bool) (one : Int) {ρ : Rn} (hl : ds.length ≤ 100000)
    (hs : ∀ (d : D) (N : D → Rn → Prop) (M : Rn → Prop), d ∈ ds → (P d = true → ∀ ρ', wipeR vs ρ' = wipeR vs ρ → N (.int one) ρ') → (P d = false → ∀ ρ', wipeR vs ρ' = wipeR vs ρ → M ρ') →
      g d (wipeR vs ρ) (fun ρ1 => t ρ1 (fun k ρ2 => IfW k (we ρ2 (fun r ρ3 => fz r ρ3 N) (fun _ => False)) (M ρ2)) fun _ => False) fun _ => False)
    (hd : ∀ ρ', wipeR vs ρ' = wipeR vs ρ → Q (((ds.filter P).map fun _ => one).map PyData.int) ρ') : CmpW vs g t we ds ρ Q := by
  refine wCmp_fm ds (fun d => if P d = true then some (.int one) else none) hl (fun d N M hd0 hN hM => hs d N M hd0 (fun h ρ' hw => hN _ (if_pos h) ρ' hw) fun h ρ' hw => hM (if_neg (by rw [h]; decide)) ρ' hw) fun ρ' hw => ?_
  have e : ds.filterMap (fun d => if P d = true then some (PyData.int one) else none) = ((ds.filter P).map fun _ => one).map PyData.int := by
    clear hs hd hl hw
    induction ds with
    | nil => rfl
    | cons d ds ih =>
      by_cases c : P d = true
      · rw [List.filterMap_cons_some (f := fun d => if P d = true then some (PyData.int one) else none) (b := .int one) (if_pos c), List.filter_cons_of_pos c, ih]
        rfl
      · rw [List.filterMap_cons_none (f := fun d => if P d = true then some (PyData.int one) else none) (if_neg c), List.filter_cons_of_neg c, ih]
  rw [e]
  exact hd ρ' hw
theorem ones_nil {ds : List D} {P : D → Bool} {one : Int} : ((ds.filter P).map fun _ => one) = [] ↔ ∀ d ∈ ds, P d = false := by
  rw [List.map_eq_nil_iff, List.filter_eq_nil_iff]
  exact ⟨fun h d hd => by simpa using h d hd, fun h d hd => by rw [h d hd]; decide⟩
/-- truths, item by item -/
theorem wCmp_bools {vs : List Nat} {g : WG} {we : WE} {Q : List D → Rn → Prop} (ds : List D) (f : D → Bool) {ρ : Rn} (hl : ds.length ≤ 100000)
    (hs : ∀ (d : D) (N : D → Rn → Prop) (M : Rn → Prop), d ∈ ds → (∀ ρ', wipeR vs ρ' = wipeR vs ρ → N (.bool (f d)) ρ') → g d (wipeR vs ρ) (fun ρ1 => IfW true (we ρ1 (fun r ρ3 => fz r ρ3 N) (fun _ => False)) (M ρ1)) fun _ => False)
    (hd : ∀ ρ', wipeR vs ρ' = wipeR vs ρ → Q ((ds.map f).map PyData.bool) ρ') : CmpW vs g wYes we ds ρ Q :=
  wCmp_map ds (fun d => .bool (f d)) hl hs fun ρ' hw => by
    have := hd ρ' hw
    rwa [List.map_map] at this
/-! ### neighbours -/
def adj {α : Type} (f : α → α → Bool) : List α → Bool
  | a :: b :: l => f a b && adj f (b :: l)
  | _ => true
theorem adj_iff {α : Type} {f : α → α → Bool} : ∀ {l : List α}, adj f l = true ↔ ∀ i a b, l[i]? = some a → l[i + 1]? = some b → f a b = true
  | [] => ⟨fun _ i a b h => (by cases h), fun _ => rfl⟩
  | [x] => ⟨fun _ i a b h h2 => (by cases h2), fun _ => rfl⟩
  | x :: y :: l => by
    rw [adj, Bool.and_eq_true, adj_iff (l := y :: l)]
    refine ⟨fun ⟨h1, h2⟩ i a b ha hb => ?_, fun h => ⟨h 0 x y rfl rfl, fun i a b ha hb => h (i + 1) a b ha hb⟩⟩
    cases i with
    | zero => cases ha; cases hb; exact h1
    | succ i => exact h2 i a b ha hb
def pairB (f : D → D → Bool) : D → Bool
  | .tuple [a, b] => f a b
  | _ => false
theorem adj_zip {f : D → D → Bool} : ∀ {l : List D}, (∀ d ∈ zipD l (l.drop 1), pairB (fun a b => !f a b) d = false) ↔ adj f l = true
  | [] => ⟨fun _ => rfl, fun _ d h => absurd h List.not_mem_nil⟩
  | [x] => ⟨fun _ => rfl, fun _ d h => absurd h List.not_mem_nil⟩
  | x :: y :: l => by
    rw [adj, Bool.and_eq_true, ← adj_zip (l := y :: l)]
    show (∀ d ∈ .tuple [x, y] :: zipD (y :: l) l, _) ↔ _
    rw [List.forall_mem_cons]
    show ((!f x y) = false ∧ _) ↔ _
    rw [Bool.not_eq_false']
    exact Iff.rfl
theorem adj_range {f : D → D → Bool} (l : List D) : ((rangeD 1 (l.length : Int)).map fun d => match d with
    | .int i => f (l.getD (i - 1).toNat .none) (l.getD i.toNat .none)
    | _ => false).all id = adj f l := by
  rw [Bool.eq_iff_iff, adj_iff, List.all_map, List.all_eq_true]
  refine ⟨fun h i a b ha hb => ?_, fun h d hd => ?_⟩
  · have hi := (List.getElem?_eq_some_iff.mp hb).1
    have := h (.int (1 + (i : Int))) (List.mem_of_getElem? (i := i) (by unfold rangeD; rw [List.getElem?_map, List.getElem?_range (by omega)]; rfl))
    have e : f (l.getD (1 + (i : Int) - 1).toNat .none) (l.getD (1 + (i : Int)).toNat .none) = true := this
    rw [show (1 + (i : Int) - 1).toNat = i by omega, show (1 + (i : Int)).toNat = i + 1 by omega, List.getD_eq_getElem?_getD, ha, List.getD_eq_getElem?_getD, hb] at e
    exact e
  · obtain ⟨i, hi⟩ := List.getElem?_of_mem hd
    obtain ⟨rfl, hlt⟩ := rangeD_get hi
    show f (l.getD (1 + (i : Int) - 1).toNat .none) (l.getD (1 + (i : Int)).toNat .none) = true
    have h1 : i + 1 < l.length := by omega
    rw [show (1 + (i : Int) - 1).toNat = i by omega, show (1 + (i : Int)).toNat = i + 1 by omega, List.getD_eq_getElem?_getD, List.getD_eq_getElem?_getD, List.getElem?_eq_getElem (show i < l.length by omega), List.getElem?_eq_getElem h1]
    exact h i _ _ (List.getElem?_eq_getElem (by omega)) (List.getElem?_eq_getElem h1)
def ltI : D → D → Bool
  | .int a, .int b => decide (a < b)
  | _, _ => false
theorem eqv_nil (L : List D) : PyData.eqv (.list L) (.list []) = L.isEmpty := by cases L <;> rfl
theorem eqv_tupnil (L : List D) : PyData.eqv (.tuple L) (.tuple []) = L.isEmpty := by cases L <;> rfl
end Tr

namespace Tr
open PySem L2
/-! ### comprehensions over a list of one's own, which stays one's own -/
def wCmpO (j : Nat) (o : Sl) (vs : List Nat) (g : WG) (t : WT) (we : WE) : List D → List D → Rn → (List D → Rn → Prop) → Prop
  | [], acc, ρ, Q => (wipeR vs ρ)[j]? = some o ∧ Q acc ρ
  | d :: ds, acc, ρ, Q => (wipeR vs ρ)[j]? = some o ∧ g d (wipeR vs ρ) (fun ρ1 => t ρ1 (fun k ρ2 => IfW k (we ρ2 (fun r ρ3 => fz r ρ3 fun y ρ4 => acc.length < 100000 ∧ wCmpO j o vs g t we ds (acc ++ [y]) ρ4 Q) (fun _ => False)) (wCmpO j o vs g t we ds acc ρ2 Q)) fun _ => False) fun _ => False
structure CmpO (j : Nat) (o : Sl) (vs : List Nat) (g : WG) (t : WT) (we : WE) (ds : List D) (ρ : Rn) (Q : List D → Rn → Prop) : Prop where
  run : wCmpO j o vs g t we ds [] ρ Q
def wLcO (j : Nat) (F : List D → List D) (vs : List Nat) (g : WG) (t : WT) (we : WE) : WE := fun ρ Qd Qx => match ρ[j]? with
  | some (.own l (.l ds)) => CmpO j (.ow l ds) vs g t we (F ds) ρ fun ys ρ2 => Qd (.tmp ys) (resR ρ vs (wipeR vs ρ2))
  | _ => False
/-- what an iterator yields while C holds -/
def Wq (pr : Bool) (K : PySem.W.Frag) (J : It) (ds : List D) (G1 H1 : Hp) : Prop := ∀ i : Nat,
  (∀ d, ds[i]? = some d → J.go i H1 ∧ ∀ x H2, J.yld i H1 x H2 → (H2 = H1 ∧ Rp K G1 x d) ∨ (pr = true ∧ ∃ (T : Addr) (xs : List V) (es : List D), H1 T = none ∧ H2 = upd H1 T (.tup xs) ∧ x = .ref T ∧ d = .tuple es ∧ RpAll K G1 xs es)) ∧ (ds.length = i → J.stop i H1)
section
variable {X : Cx} {c : Ct} {e a b tg it : Expr} {es : List Expr} {pr : Bool}
theorem yldq {G1 H1 H2 : Hp} {σ : L2.St} {ρ : Rn} {J : It} {ds : List D} {d : D} {i : Nat} {x : V} (hW : Wq pr c.K J ds G1 H1) (rl : Rel c.K c.pa c.le G1 H1 σ ρ) (hd : ds[i]? = some d) (hy : J.yld i H1 x H2) :
    Nw c.K c.pa c.le G1 H1 σ ρ G1 H2 σ ρ ∧ Yl pr c.K G1 H2 x d := by
  rcases ((hW i).1 d hd).2 x H2 hy with ⟨rfl, h⟩ | ⟨hp, T, xs, es, h1, rfl, rfl, rfl, h2⟩
  · exact ⟨Nw.refl rl, .inl h⟩
  · exact ⟨Nw.new_any rl h1, .inr ⟨hp, T, xs, es, rfl, rfl, SqT.of upd_same, h2⟩⟩
theorem lcO {j : Nat} {o : Sl} {g : WG} {t : WT} {we : WE} {vs : List Nat} {σ : L2.St} {H G : Hp} {ρ : Rn} {Q : VK} {Qd : R → Rn → Prop} {J : It} {ds : List D} (rl : Rel c.K c.pa c.le G H σ ρ)
    (hJ : ∀ G1 H1 ρ1, Rel c.K c.pa c.le G1 H1 (wipe σ vs) (wipeR vs ρ1) → (wipeR vs ρ1)[j]? = some o → Wq pr c.K J ds G1 H1)
    (q : CmpO j o vs g t we ds ρ fun ys ρ2 => Qd (.tmp ys) (resR ρ vs (wipeR vs ρ2)))
    (hQ : ∀ v r ρ' G' H', Nw c.K c.pa c.le G H σ ρ G' H' σ ρ' → RR c.K c.pa G' H' σ ρ' v r → Frs H σ ρ v r → Qd r ρ' → Q v H') :
    ∀ Dl, H Dl = none → ∃ W : Nat → Nat → Hp → Prop, (∃ m, W 0 m (upd H Dl (.lst []))) ∧ ∀ i m H, W i m H →
      (J.stop i H ∧ Q (.ref Dl) H) ∨ (J.go i H ∧ ∃ Nx : Hp → Prop, (∀ H', Nx H' → ∃ m', m' < m ∧ W (i + 1) m' H') ∧ ∀ x H', J.yld i H x H' → LGv pr vs c.in_ g x (wipe σ vs) H' fun σ2 H2 => wipe σ2 vs = wipe σ vs ∧ LT c.in_ t σ2 H2 fun b H3 =>
        if b = true then LE c.in_ we σ2 H3 fun y H4 => ∃ acc, H4 Dl = some (.lst acc) ∧ acc.length < sizeLine ∧ Nx (upd H4 Dl (.lst (acc ++ [y]))) else Nx H3) := fun Dl hDl => by
  have gDl : G Dl = none := by
    cases e : G Dl with
    | none => rfl
    | some o => rw [rl.ext Dl o e] at hDl; cases hDl
  obtain ⟨rw_, ow_⟩ := rel_wipe vs rl
  have potD : ¬ PotAt c.pa Dl := fun z => (rl.potT z).1 hDl
  have noX : ∀ (G H : Hp) (σ : L2.St) (ρ : Rn), LX c.in_ G H σ ρ fun _ => False := fun _ _ _ _ _ _ _ _ _ _ _ _ _ z => z.elim
  refine ⟨fun i m H' => m = ds.length - i ∧ i ≤ ds.length ∧ ∃ G' ρ' acc vacc, Nw c.K c.pa c.le G H (wipe σ vs) (wipeR vs ρ) G' H' (wipe σ vs) (wipeR vs ρ') ∧ H' Dl = some (.lst vacc) ∧ G' Dl = none ∧ ¬ Own (wipe σ vs) (wipeR vs ρ') Dl ∧ RpAll c.K G' vacc acc ∧
      wCmpO j o vs g t we (ds.drop i) acc ρ' fun ys ρ2 => Qd (.tmp ys) (resR ρ vs (wipeR vs ρ2)),
    ⟨_, rfl, Nat.zero_le _, G, ρ, [], [], Nw.poke (Nw.refl rw_) hDl gDl (fun z => (rw_.owT z).1 hDl) potD, upd_same, gDl, fun z => (rw_.owT z).1 hDl, .nil, q.run⟩, ?_⟩
  rintro i m H' ⟨rfl, hil, G', ρ', acc, vacc, n2, hD2, gD2, oD2, ra, q2⟩
  by_cases hlt : i < ds.length
  · have hd : ds[i]? = some ds[i] := List.getElem?_eq_getElem hlt
    rw [List.drop_eq_getElem_cons hlt] at q2
    obtain ⟨qj, q2⟩ := q2
    have hW := hJ G' H' ρ' n2.r qj
    refine .inr ⟨((hW i).1 _ hd).1, fun H3 => ∃ G3 ρ3 acc vacc, Nw c.K c.pa c.le G H (wipe σ vs) (wipeR vs ρ) G3 H3 (wipe σ vs) (wipeR vs ρ3) ∧ H3 Dl = some (.lst vacc) ∧ G3 Dl = none ∧ ¬ Own (wipe σ vs) (wipeR vs ρ3) Dl ∧ RpAll c.K G3 vacc acc ∧
      wCmpO j o vs g t we (ds.drop (i + 1)) acc ρ3 fun ys ρ2 => Qd (.tmp ys) (resR ρ vs (wipeR vs ρ2)), fun H3 h3 => ⟨ds.length - (i + 1), by omega, rfl, hlt, h3⟩, fun x H4 hy => ?_⟩
    obtain ⟨n4, y4⟩ := yldq hW n2.r hd hy
    refine ⟨G', wipeR vs ρ', ds[i], _, _, n4.r, y4, q2, fun σ6 ρ6 G6 H6 n6 w6 q6 => ⟨w6.trans wipe_idem, ?_⟩⟩
    have w6' : wipe σ6 vs = wipe σ vs := w6.trans wipe_idem
    have n46 := n4.trans n2.r n6
    refine ⟨G6, ρ6, _, _, n6.r, q6, fun k ρ7 G7 H7 n7 q7 => ?_, noX _ _ _ _⟩
    have n47 := n46.trans n2.r n7
    cases k with
    | false =>
      have q7 := q7.f rfl
      obtain ⟨k1, k2, k3⟩ := n47.kept hD2 gD2 oD2 potD
      have n27 := n2.trans rw_ n47
      exact ⟨G7, ρ7, acc, vacc, n27.wiped w6', k1, k2, fun z => k3 ((by
        obtain ⟨_, o1⟩ := rel_wipe vs n7.r
        rw [w6'] at o1
        exact o1 _ z)), RpAll.mono n47.a.g _ _ ra, q7⟩
    | true =>
      have q7 := q7.t rfl
      refine ⟨G7, ρ7, _, _, n7.r, q7, fun v r ρ8 G8 H8 n8 rr fr q8 => ?_, noX _ _ _ _⟩
      obtain ⟨G9, d, ρ9, s9, A9, O9, _, r9, hd9, hz9, q9⟩ := fz_ok n7.r n8.a n8.o n8.r rr fr q8
      have n9 : Nw c.K c.pa c.le G7 H7 σ6 ρ7 G9 H8 σ6 ρ9 := ⟨A9, O9, r9⟩
      have n49 := n47.trans n2.r n9
      obtain ⟨k1, k2, k3⟩ := n49.kept hD2 gD2 oD2 potD
      have n29 := n2.trans rw_ n49
      have k4 : ¬ Own (wipe σ vs) (wipeR vs ρ9) Dl := fun z => k3 (by
        obtain ⟨_, o1⟩ := rel_wipe vs r9
        rw [w6'] at o1
        exact o1 _ z)
      refine ⟨vacc, k1, by rw [RpAll.length ra]; exact Nat.lt_of_lt_of_le hz9 (by decide), G9, ρ9, acc ++ [d], vacc ++ [v], Nw.poke (n29.wiped w6') hDl k2 k4 potD, upd_same, k2, k4, RpAll.append (RpAll.mono n49.a.g _ _ ra) (.cons hd9 .nil), q9⟩
  · have e : i = ds.length := by omega
    subst e
    rw [List.drop_length] at q2
    obtain ⟨qj, q2⟩ := q2
    have hW := hJ G' H' ρ' n2.r qj
    obtain ⟨nb, ob⟩ := comp_back rl n2
    refine .inl ⟨(hW _).2 rfl, hQ (.ref Dl) (.tmp acc) _ G' H' nb ⟨Dl, _, rfl, gD2, hD2, .l ra, fun z => ?_, potD⟩ (fun a e => by cases e; exact .inl hDl) q2⟩
    rcases ob Dl z with y | y
    · exact (rl.owT y).1 hDl
    · exact oD2 y
/-- the list that a slot owns, as it stands -/
theorem own_at {G H : Hp} {σ : L2.St} {ρ : Rn} {j : Nat} {l : Bool} {ds : List D} (rl : Rel c.K c.pa c.le G H σ ρ) (e : ρ[j]? = some (.ow l ds)) : ∃ a vs, σ[j]? = some (some (.ref a)) ∧ H a = some (.lst vs) ∧ RpAll c.K G vs ds := by
  obtain ⟨ov, e1, a, ho, rfl, _, h2, h3, _⟩ := rl.sl j _ e
  cases h3 with
  | l h => exact ⟨a, _, e1, h2, h⟩
theorem wq_list {j : Nat} {l : Bool} {ds : List D} {σ : L2.St} {vs : List Nat} {a : Addr} (ha : (wipe σ vs)[j]? = some (some (.ref a))) :
    ∀ G1 H1 ρ1, Rel c.K c.pa c.le G1 H1 (wipe σ vs) (wipeR vs ρ1) → (wipeR vs ρ1)[j]? = some (.ow l ds) → Wq false c.K (Itl c.K a) ds G1 H1 := fun G1 H1 ρ1 rl e i => by
  obtain ⟨a2, ws, e1, h1, h2⟩ := own_at rl e
  rw [ha] at e1
  cases e1
  have hs : SqL c.K H1 a ws := SqL.of h1
  refine ⟨fun d hd => ?_, fun e => ⟨ws, hs, by rw [RpAll.length h2, e]; exact Nat.le_refl _⟩⟩
  obtain ⟨v, h3, h4⟩ := RpAll.get h2 hd
  refine ⟨⟨ws, v, hs, h3⟩, fun x H2 ⟨e2, hy⟩ => .inl ⟨e2, ?_⟩⟩
  have := hy ws hs
  rw [h3] at this
  cases this
  exact h4
theorem wq_enum {j : Nat} {l : Bool} {ds : List D} {σ : L2.St} {vs : List Nat} {a : Addr} (ha : (wipe σ vs)[j]? = some (some (.ref a))) :
    ∀ G1 H1 ρ1, Rel c.K c.pa c.le G1 H1 (wipe σ vs) (wipeR vs ρ1) → (wipeR vs ρ1)[j]? = some (.ow l ds) → Wq true c.K (Ite c.K a) (enumD ds) G1 H1 := fun G1 H1 ρ1 rl e i => by
  obtain ⟨a2, ws, e1, h1, h2⟩ := own_at rl e
  rw [ha] at e1
  cases e1
  have hs : SqL c.K H1 a ws := SqL.of h1
  refine ⟨fun d hd => ?_, fun e => ⟨ws, hs, by rw [RpAll.length h2, ← enumD_len, e]; exact Nat.le_refl _⟩⟩
  obtain ⟨d', hd', rfl⟩ := enumD_get hd
  obtain ⟨v, h3, h4⟩ := RpAll.get h2 hd'
  refine ⟨⟨ws, v, hs, h3⟩, fun x H2 hy => .inr ⟨rfl, ?_⟩⟩
  obtain ⟨T, y, rfl, hT, e2, hy⟩ := hy
  have e := hy ws hs
  rw [h3] at e
  cases e
  exact ⟨T, _, _, hT, e2, rfl, rfl, .cons (.int _) (.cons h4 .nil)⟩
variable {iter elt : Expr} {ifs : List Expr} {scope : Scope} {own : List (Str × Nat)} {pos spos py p : Pos} {g : WG} {t : WT} {we : WE}
theorem lcO_le {j : Nat} {σ : L2.St} {H : Hp} {Q : VK} {vs : List Nat} (hj : j ∉ vs) (hK : X.K = c.K) (h : LE c (wLcO j id vs g t we) σ H Q) : tLc (iSeq X.K (tVar j)) (LGv false vs c.in_ g) (LT c.in_ t) (LE c.in_ we) vs σ H Q := by
  obtain ⟨G, ρ, Qd, Qx, rl, hw, hQ, hX⟩ := h
  unfold wLcO at hw
  split at hw
  · rename_i l ds e
    obtain ⟨a, ws, e1, h1, h2⟩ := own_at rl e
    refine ⟨.ref a, e1, a, rfl, .inl ⟨⟨ws, SqL.of h1⟩, ?_⟩⟩
    rw [hK]
    exact lcO rl (wq_list (by rw [wipe_ne hj]; exact e1)) hw hQ
  · exact hw.elim
theorem lcOe_le {j : Nat} {σ : L2.St} {H : Hp} {Q : VK} {vs : List Nat} (hj : j ∉ vs) (hK : X.K = c.K) (h : LE c (wLcO j enumD vs g t we) σ H Q) : tLc (iEnumA X.K (tCons (tVar j) tNil)) (LGv true vs c.in_ g) (LT c.in_ t) (LE c.in_ we) vs σ H Q := by
  obtain ⟨G, ρ, Qd, Qx, rl, hw, hQ, hX⟩ := h
  unfold wLcO at hw
  split at hw
  · rename_i l ds e
    obtain ⟨a, ws, e1, h1, h2⟩ := own_at rl e
    refine ⟨.ref a, e1, a, rfl, .inl ⟨⟨ws, SqL.of h1⟩, ?_⟩⟩
    rw [hK]
    exact lcO rl (wq_enum (by rw [wipe_ne hj]; exact e1)) hw hQ
  · exact hw.elim
theorem d_lcO {j : Nat} (hc : X.calm = true) (hN : X.N.Nodup) (ok : blkC X.N X.env.scope scope own = true) (hi : PE X iter (tVar j))
    (hg : ∀ s H C cl fp, DGv false (own.map (·.2)) (blkX X scope s H C cl fp) c.in_ tg g) (ht : ∀ s H C cl fp, DTs (blkX X scope s H C cl fp) c.in_ ifs t)
    (he : ∀ s H C cl fp, DE (blkX X scope s H C cl fp) c.in_ elt we) (hj : j ∉ own.map (·.2) := by decide) (hK : X.K = c.K := by rfl) (hs : ∀ x, foldedSetIterable iter X.env x = pure x := by intro _; rfl) :
    DE X c (.ListComp elt [⟨tg, iter, ifs, 0⟩] scope pos) (wLcO j id (own.map (·.2)) g t we) :=
  PEw (pe_lc hc hN (pi_seq hi) (blkOk_by ok) hg ht he hs) fun σ H Q h => lcO_le hj hK h
theorem d_lcOe {j : Nat} {tpos : Pos} {elts : List Expr} {kk : Nat} (hc : X.calm = true) (hN : X.N.Nodup) (ok : blkC X.N X.env.scope scope own = true) (hg0 : Gl X "enumerate") (hm : X.mg "enumerate" = none) (hi : PE X e (tVar j))
    (hg : ∀ s H C cl fp, DGv true (own.map (·.2)) (blkX X scope s H C cl fp) c.in_ (.Tuple elts kk tpos) g) (ht : ∀ s H C cl fp, DTs (blkX X scope s H C cl fp) c.in_ ifs t)
    (he : ∀ s H C cl fp, DE (blkX X scope s H C cl fp) c.in_ elt we) (hj : j ∉ own.map (·.2) := by decide) (hK : X.K = c.K := by rfl) (hs : ∀ x, foldedSetIterable (.Call (.Name "enumerate" p) [e] [] spos) X.env x = pure x := by intro _; rfl)
    (hse : starEach [e] X.env = [(false, eval e X.env)] := by rfl) (hse2 : starEach [e] X.env = (false, eval e X.env) :: starEach [] X.env := by rfl) :
    DE X c (.ListComp elt [⟨.Tuple elts kk tpos, .Call (.Name "enumerate" p) [e] [] spos, ifs, 0⟩] scope pos) (wLcO j enumD (own.map (·.2)) g t we) :=
  PEw (pe_lc hc hN (pi_enumA hg0 hm (pa_cons hi pa_nil hse2) hse) (blkOk_by ok) hg ht he hs) fun σ H Q h => lcOe_le hj hK h
theorem d_setLcO {i j : Nat} {y : Str} (hc : X.calm = true) (hN : X.N.Nodup) (hy : X.N[i]? = some y) (hyl : X.env.scope.names.lookup y = some .local)
    (hsw : swapsWith (.ListComp elt [⟨tg, iter, ifs, 0⟩] scope pos) (some (.Name y py)) spos.line X.env = pure true) (ok : blkC X.N X.env.scope scope own = true) (hi : PE X iter (tVar j))
    (hg : ∀ s H C cl fp, DGv false (own.map (·.2)) (blkX X scope s H C cl fp) c.in_ tg g) (ht : ∀ s H C cl fp, DTs (blkX X scope s H C cl fp) c.in_ ifs t)
    (he : ∀ s H C cl fp, DE (blkX X scope s H C cl fp) c.in_ elt we) (hj : j ∉ own.map (·.2) := by decide) (hK : X.K = c.K := by rfl) (hs : ∀ x, foldedSetIterable iter X.env x = pure x := by intro _; rfl) :
    DS X c (.Assign [.Name y py] (.ListComp elt [⟨tg, iter, ifs, 0⟩] scope pos) spos) (wSet i (wLcO j id (own.map (·.2)) g t we)) :=
  PSw (ps_setLc hc hN hy hyl hsw (pi_seq hi) (blkOk_by ok) hg ht he hs) fun D σ H ⟨G, ρ, P, rl, hw, h1, h2, h3, h4, h5⟩ =>
    lcO_le hj hK ⟨G, ρ, _, P.ex, rl, hw, fun v r ρ1 G1 H1 n1 rr fr q => by
      obtain ⟨G2, ρ2, n2, q2⟩ := st_ok rl n1 rr fr q
      exact h1 _ ρ2 G2 H1 n2 q2, h5⟩
theorem d_setLcOe {i j : Nat} {y : Str} {tpos q : Pos} {elts : List Expr} {kk : Nat} (hc : X.calm = true) (hN : X.N.Nodup) (hy : X.N[i]? = some y) (hyl : X.env.scope.names.lookup y = some .local)
    (hsw : swapsWith (.ListComp elt [⟨.Tuple elts kk tpos, .Call (.Name "enumerate" p) [e] [] q, ifs, 0⟩] scope pos) (some (.Name y py)) spos.line X.env = pure true) (ok : blkC X.N X.env.scope scope own = true) (hg0 : Gl X "enumerate") (hm : X.mg "enumerate" = none) (hi : PE X e (tVar j))
    (hg : ∀ s H C cl fp, DGv true (own.map (·.2)) (blkX X scope s H C cl fp) c.in_ (.Tuple elts kk tpos) g) (ht : ∀ s H C cl fp, DTs (blkX X scope s H C cl fp) c.in_ ifs t)
    (he : ∀ s H C cl fp, DE (blkX X scope s H C cl fp) c.in_ elt we) (hj : j ∉ own.map (·.2) := by decide) (hK : X.K = c.K := by rfl) (hs : ∀ x, foldedSetIterable (.Call (.Name "enumerate" p) [e] [] q) X.env x = pure x := by intro _; rfl)
    (hse : starEach [e] X.env = [(false, eval e X.env)] := by rfl) (hse2 : starEach [e] X.env = (false, eval e X.env) :: starEach [] X.env := by rfl) :
    DS X c (.Assign [.Name y py] (.ListComp elt [⟨.Tuple elts kk tpos, .Call (.Name "enumerate" p) [e] [] q, ifs, 0⟩] scope pos) spos) (wSet i (wLcO j enumD (own.map (·.2)) g t we)) :=
  PSw (ps_setLc hc hN hy hyl hsw (pi_enumA hg0 hm (pa_cons hi pa_nil hse2) hse) (blkOk_by ok) hg ht he hs) fun D σ H ⟨G, ρ, P, rl, hw, h1, h2, h3, h4, h5⟩ =>
    lcOe_le hj hK ⟨G, ρ, _, P.ex, rl, hw, fun v r ρ1 G1 H1 n1 rr fr q => by
      obtain ⟨G2, ρ2, n2, q2⟩ := st_ok rl n1 rr fr q
      exact h1 _ ρ2 G2 H1 n2 q2, h5⟩
end
/-! the rules by values -/
theorem wCmpO_inv0 {j : Nat} {o : Sl} {vs : List Nat} {g : WG} {t : WT} {we : WE} {Q : List D → Rn → Prop} : ∀ (ds : List D) (I : Nat → List D → Rn → Prop) {acc : List D} {ρ : Rn}, I 0 acc ρ → (∀ i acc ρ, I i acc ρ → (wipeR vs ρ)[j]? = some o) →
    (∀ (i : Nat) (d : D) (acc : List D) (ρ : Rn) (N : List D → Rn → Prop), ds[i]? = some d → I i acc ρ → (∀ acc' ρ', I (i + 1) acc' ρ' → N acc' ρ') →
      g d (wipeR vs ρ) (fun ρ1 => t ρ1 (fun k ρ2 => IfW k (we ρ2 (fun r ρ3 => fz r ρ3 fun y ρ4 => acc.length < 100000 ∧ N (acc ++ [y]) ρ4) (fun _ => False)) (N acc ρ2)) fun _ => False) fun _ => False) →
    (∀ acc ρ, I ds.length acc ρ → Q acc ρ) → wCmpO j o vs g t we ds acc ρ Q
  | [], _, acc, ρ, h0, hj, _, hd => ⟨hj _ _ _ h0, hd acc ρ h0⟩
  | d :: ds, I, acc, ρ, h0, hj, hs, hd => ⟨hj _ _ _ h0, hs 0 d acc ρ (fun acc ρ => wCmpO j o vs g t we ds acc ρ Q) rfl h0 fun acc' ρ' h1 => wCmpO_inv0 ds (fun i => I (i + 1)) h1 (fun i => hj (i + 1)) (fun i e a ρ N he hi hN => hs (i + 1) e a ρ N he hi hN) fun a ρ h => hd a ρ h⟩
theorem wCmpO_inv {j : Nat} {o : Sl} {vs : List Nat} {g : WG} {t : WT} {we : WE} {Q : List D → Rn → Prop} (ds : List D) (I : Nat → List D → Rn → Prop) {ρ : Rn} (h0 : I 0 [] ρ) (hj : ∀ i acc ρ, I i acc ρ → (wipeR vs ρ)[j]? = some o)
    (hs : ∀ (i : Nat) (d : D) (acc : List D) (ρ : Rn) (N : List D → Rn → Prop), ds[i]? = some d → I i acc ρ → (∀ acc' ρ', I (i + 1) acc' ρ' → N acc' ρ') →
      g d (wipeR vs ρ) (fun ρ1 => t ρ1 (fun k ρ2 => IfW k (we ρ2 (fun r ρ3 => fz r ρ3 fun y ρ4 => acc.length < 100000 ∧ N (acc ++ [y]) ρ4) (fun _ => False)) (N acc ρ2)) fun _ => False) fun _ => False)
    (hd : ∀ acc ρ, I ds.length acc ρ → Q acc ρ) : CmpO j o vs g t we ds ρ Q := ⟨wCmpO_inv0 ds I h0 hj hs hd⟩
/-- what passes and is told, item by item -/
theorem wCmpO_fm {j : Nat} {o : Sl} {vs : List Nat} {g : WG} {t : WT} {we : WE} {Q : List D → Rn → Prop} (ds : List D) (f : D → Option D) {ρ : Rn} (hj : (wipeR vs ρ)[j]? = some o) (hl : ds.length ≤ 100000)
    (hs : ∀ (d : D) (N : D → Rn → Prop) (M : Rn → Prop), d ∈ ds → (∀ y, f d = some y → ∀ ρ', wipeR vs ρ' = wipeR vs ρ → N y ρ') → (f d = none → ∀ ρ', wipeR vs ρ' = wipeR vs ρ → M ρ') →
      g d (wipeR vs ρ) (fun ρ1 => t ρ1 (fun k ρ2 => IfW k (we ρ2 (fun r ρ3 => fz r ρ3 N) (fun _ => False)) (M ρ2)) fun _ => False) fun _ => False)
    (hd : ∀ ρ', wipeR vs ρ' = wipeR vs ρ → Q (ds.filterMap f) ρ') : CmpO j o vs g t we ds ρ Q := by
  refine wCmpO_inv ds (fun i acc ρ' => acc = (ds.take i).filterMap f ∧ wipeR vs ρ' = wipeR vs ρ) ⟨rfl, rfl⟩ (fun i acc ρ' ⟨_, hw⟩ => by rw [hw]; exact hj) (fun i d acc ρ1 N he ⟨ha, hw⟩ hN => ?_) fun acc ρ1 ⟨ha, hw⟩ => ?_
  · have ht : ds.take (i + 1) = ds.take i ++ [d] := by rw [List.take_add_one, he]; rfl
    rw [hw]
    refine hs d (fun y ρ4 => acc.length < 100000 ∧ N (acc ++ [y]) ρ4) (fun ρ2 => N acc ρ2) (List.mem_of_getElem? he) (fun y hf ρ' h => ⟨?_, hN _ _ ⟨?_, h⟩⟩) fun hf ρ' h => hN _ _ ⟨?_, h⟩
    · have h1 : ((ds.take i).filterMap f).length ≤ (ds.take i).length := List.length_filterMap_le _ _
      have h2 := (List.getElem?_eq_some_iff.mp he).1
      rw [List.length_take] at h1
      rw [ha]
      omega
    · rw [ha, ht, List.filterMap_append, List.filterMap_cons_some hf]
      rfl
    · rw [ha, ht, List.filterMap_append, List.filterMap_cons_none hf]
      simp
  · subst ha
    rw [List.take_length]
    exact hd ρ1 hw
end Tr

namespace Tr
open PySem L2
/-! ### t[k::c] -/
def pickL {α : Type} (l : List Nat) (f : Nat → Nat) (xs : List α) : List α := l.filterMap fun m => xs[f m]?
def stepN (n k c : Int) : Nat := Builtin.Slice.slicePlaces (min k n) n c
def stepL {α : Type} (xs : List α) (k c : Int) : List α := pickL (List.range (stepN xs.length k c)) (fun m => ((min k (xs.length : Int)) + (m : Int) * c).toNat) xs
theorem stepN_le {n : Nat} {k c : Int} (hk : 0 ≤ k) (hc : 1 ≤ c) : stepN n k c ≤ n := by
  unfold stepN Builtin.Slice.slicePlaces
  rw [if_pos (by omega)]
  split
  · have := Int.ediv_le_self (a := (n : Int) - min k n - 1) c (by omega)
    omega
  · exact Nat.zero_le _
theorem pickL_len {α : Type} (l : List Nat) (f : Nat → Nat) (xs : List α) : (pickL l f xs).length ≤ l.length := List.length_filterMap_le _ _
theorem stepL_len {α : Type} (xs : List α) {k c : Int} (hk : 0 ≤ k) (hc : 1 ≤ c) : (stepL xs k c).length ≤ xs.length := by
  refine Nat.le_trans (pickL_len _ _ _) ?_
  rw [List.length_range]
  exact stepN_le hk hc
theorem stepL_mem {α : Type} {xs : List α} {k c : Int} {x : α} (h : x ∈ stepL xs k c) : x ∈ xs := by
  obtain ⟨m, _, e⟩ := List.mem_filterMap.mp h
  exact List.mem_of_getElem? e
theorem vals_pick {xs : List V} {us : List Value} (h : Vals xs us) (f : Nat → Nat) : ∀ l : List Nat, Vals (pickL l f xs) (pickL l f us)
  | [] => .nil
  | m :: l => by
    have ih := vals_pick h f l
    unfold pickL at ih ⊢
    rw [List.filterMap_cons, List.filterMap_cons]
    cases e : xs[f m]? with
    | none => rw [h.none_of e]; exact ih
    | some x =>
      obtain ⟨u, e2, r⟩ := h.get e
      rw [e2]
      exact .cons r ih
theorem vals_step {xs : List V} {us : List Value} (h : Vals xs us) (k c : Int) : Vals (stepL xs k c) (stepL us k c) := by
  unfold stepL
  rw [h.length]
  exact vals_pick h _ _
theorem rp_get {K : PySem.W.Frag} {G : Hp} : ∀ {vs : List V} {ds : List D}, RpAll K G vs ds → ∀ i : Nat, (vs[i]? = none ∧ ds[i]? = none) ∨ ∃ v d, vs[i]? = some v ∧ ds[i]? = some d ∧ Rp K G v d
  | _, _, .nil, i => .inl ⟨by simp, by simp⟩
  | _, _, .cons r _, 0 => .inr ⟨_, _, rfl, rfl, r⟩
  | _, _, .cons _ t, i + 1 => rp_get t i
theorem rp_pick {K : PySem.W.Frag} {G : Hp} {vs : List V} {ds : List D} (h : RpAll K G vs ds) (f : Nat → Nat) : ∀ l : List Nat, RpAll K G (pickL l f vs) (pickL l f ds)
  | [] => .nil
  | m :: l => by
    have ih := rp_pick h f l
    unfold pickL at ih ⊢
    rw [List.filterMap_cons, List.filterMap_cons]
    rcases rp_get h (f m) with ⟨e1, e2⟩ | ⟨v, d, e1, e2, r⟩
    · rw [e1, e2]; exact ih
    · rw [e1, e2]; exact .cons r ih
theorem rp_step {K : PySem.W.Frag} {G : Hp} {vs : List V} {ds : List D} (h : RpAll K G vs ds) (k c : Int) : RpAll K G (stepL vs k c) (stepL ds k c) := by
  unfold stepL
  rw [RpAll.length h]
  exact rp_pick h _ _
theorem getItem_tuple_step {prog : Program} {w : World} {A : Around} {E : Value → Shared → Prop} {s : Shared} {t sl : Addr} {its : List Value} {vl vu vs : Value} {k c : Int} {Q : Value → Shared → Prop} (hk : 0 ≤ k) (hc : 2 ≤ c) (ht : PyProof.Rows.IsTup s.heap t its.toArray)
    (hs : s.heap.IsSliceOf sl vl vu vs) (pl : IsPart vl (some k)) (pu : IsPart vu none) (ps : IsPart vs (some c)) (h : Q (.ref s.heap.objs.size) { s with heap := s.heap.push { cls := .type "tuple", data := .seq (stepL its k c).toArray } }) (hsz : its.length ≤ sizeLine) :
    wpAny (model prog w) A (getItem (.ref t) (.ref sl)) Q E s := by
  have hok : sizeOk (.seq (stepL its k c).toArray) := by
    show (stepL its k c).toArray.size ≤ sizeLine
    rw [List.size_toArray]
    exact Nat.le_trans (stepL_len its hk (by omega)) hsz
  obtain ⟨os, hos, hcs, hds⟩ := id hs
  have hTs : s.TypeIs (.ref sl) "slice" := ⟨os, hos, hcs⟩
  have adj : Builtin.Slice.sliceAdjust (some k) none c (its.length : Int) = (min k (its.length : Int), (its.length : Int)) := by
    unfold Builtin.Slice.sliceAdjust
    have h1 : ¬ c < 0 := by omega
    have h2 : ¬ k < 0 := by omega
    simp only [h1, h2, if_false]
  unfold getItem
  try with_reducible refine wpAny_holding ?_
  first | refine wpAny_bind (wpAny_pure ?_) | skip
  refine wpAny_bind (wpAny_sequenceKey ht.typeIs (by decide) ?_)
  refine wpAny_bind (wpAny_callSpecial?_slot (name := Str.ofString "__getitem__") ht.typeIs PyProof.Rows.slot_tuple_getitem
    (wpAny_call_entry PyProof.Rows.slot_tuple_getitem ht.typeIs PyProof.Rows.entry_tuple_getitem ?_ (PyProof.Rows.args_tuple_getitem _ _)))
  show wpAny _ _ (Builtin.Tuple.tupleItemsOf (.ref t) >>= _) _ _ s
  refine wpAny_bind (PyProof.Rows.tupleItemsOf_ ht ?_)
  refine wpAny_bind (wpAny_typeOf hTs ?_)
  rw [if_pos (by decide)]
  refine wpAny_bind ?_
  unfold Builtin.Slice.sliceApplied Builtin.Slice.sliceFields
  refine wpAny_bind (wpAny_bind (wpAny_field hos hds (x := vl) rfl (wpAny_bind (wpAny_field hos hds (x := vu) rfl (wpAny_bind (wpAny_field hos hds (x := vs) rfl (wpAny_pure ?_)))))))
  refine wpAny_bind (HT.slicePart_ ps ?_)
  show wpAny _ _ (if (c == 0) = true then _ else _) _ _ s
  rw [if_neg (by rw [beq_iff_eq]; omega)]
  refine wpAny_bind (HT.slicePart_ pl (wpAny_bind (HT.slicePart_ pu (wpAny_bind (wpAny_pure ?_)))))
  show wpAny _ _ (match Builtin.Slice.sliceAdjust (some k) none c (its.toArray.size : Int) with | (lo, hi) => pure (lo, c, Builtin.Slice.slicePlaces lo hi c)) _ _ s
  rw [List.size_toArray, adj]
  refine wpAny_pure ?_
  have hno : ¬ ((((min k (its.length : Int) == 0) && (c == 1)) && (Builtin.Slice.slicePlaces (min k (its.length : Int)) its.length c == its.length)) = true) := by
    intro q
    rw [Bool.and_eq_true, Bool.and_eq_true] at q
    have := eq_of_beq q.1.2
    omega
  show wpAny _ _ (if ((((min k (its.length : Int) == 0) && (c == 1)) && (Builtin.Slice.slicePlaces (min k (its.length : Int)) its.length c == its.length)) = true) then _ else _) _ _ s
  rw [if_neg hno]
  have pick : ((List.range (Builtin.Slice.slicePlaces (min k (its.length : Int)) its.length c)).filterMap fun (m : Nat) => its.toArray[((min k (its.length : Int)) + (m : Int) * c).toNat]?) = stepL its k c := by
    unfold stepL pickL
    simp only [List.getElem?_toArray]
    rfl
  rw [pick]
  first
    | exact wpAny_bind (m := Builtin.Tuple.tupleExact _) (wpAny_newObj_type (wpAny_pure ⟨_, rfl, wpAny_pure h⟩) hok)
    | exact wpAny_bind (m := Builtin.Tuple.tupleExact _) (wpAny_newObj_type (wpAny_bind (wpAny_pure (wpAny_pure ⟨_, rfl, wpAny_pure h⟩))) hok)
    | exact wpAny_bind (wpAny_bind (m := Builtin.Tuple.tupleExact _) (wpAny_newObj_type (wpAny_pure (wpAny_pure ⟨_, rfl, wpAny_pure h⟩)) hok))
    | exact wpAny_bind (wpAny_bind (m := Builtin.Tuple.tupleExact _) (wpAny_newObj_type (wpAny_pure ⟨_, rfl, wpAny_pure h⟩) hok))
section
variable {X : Cx} {e lo : Expr}
def oStep (K : PySem.W.Frag) (st : Int) : R2 := fun x y H2 Q => ∃ i, y = .int i ∧ ∃ a xs k, x = .ref a ∧ some i = some k ∧ 0 ≤ k ∧ SqT K H2 a xs ∧ rNewT (stepL xs k st) H2 Q
def tStep (K : PySem.W.Frag) (st : Int) (te tl : TE) : TE := fun σ H Q => te σ H fun x H1 => tl σ H1 fun y H2 => oStep K st x y H2 Q
theorem pe_step {te tl : TE} {st : Int} {kk : Nat} {p1 p3 pos : Pos} (hst : 2 ≤ st) (he : PE X e te) (hl : PE X lo tl) : PE X (.Subscript e (.Slice (some lo) none (some (.Constant (.int st) kk p1)) p3) pos) (tStep X.K st te tl) := by
  refine ⟨fun pins s σ H Q I h => PyProof.Rows.Subscript_ (thn (he.run pins s σ H _ I h) fun v s1 hv => ?_)⟩
  obtain ⟨x, H1, I1, r1, q1⟩ := hv
  have hsp : PO X (some (.Constant (.int st) kk p1)) (tPart (tC (.int st))) := po_some pe_int
  refine wpAny_Slice (thn ((po_some hl).run pins s1 σ H1 (fun o H2 => ∃ a xs k, x = .ref a ∧ o = some k ∧ 0 ≤ k ∧ SqT X.K H2 a xs ∧ rNewT (stepL xs k st) H2 Q) I1 q1) fun vl s2 h2 => ?_)
  obtain ⟨l, H2, I2, pl, a, xs, k, rfl, rfl, hk, hx, q⟩ := h2
  refine thn (po_none.run pins s2 σ H2 (fun o H3 => o = none ∧ H3 = H2) I2 ⟨rfl, rfl⟩) fun vu s3 h3 => ?_
  obtain ⟨u, H3, I3, pu, rfl, rfl⟩ := h3
  refine thn (hsp.run pins s3 σ H3 (fun o H4 => o = some st ∧ H4 = H3) I3 ⟨st, rfl, rfl, rfl⟩) fun vs s4 h4 => ?_
  obtain ⟨o, H4, I4, ps, rfl, rfl⟩ := h4
  have I5 : Inv X pins σ H4 { s4 with heap := s4.heap.push { cls := .type "slice", data := .fields #[vl, vu, vs] } } := I4.kept (t' := s4.toks) fun b ob q => Heap.get?_push_of_some _ q
  show wpAny (model X.prog X.w) X.A (PyProof.Rows.subscriptTail e (.Slice (some lo) none (some (.Constant (.int st) kk p1)) p3) v (.ref s4.heap.objs.size)) (EP X pins σ Q) X.xe { s4 with heap := s4.heap.push { cls := .type "slice", data := .fields #[vl, vu, vs] } }
  cases r1
  obtain ⟨its, r, ht, hz⟩ := I5.tuple hx
  refine PyProof.Rows.tail_any (ops := [.ref a, .ref s4.heap.objs.size]) ht.typeIs (PyProof.Rows.slot_tuple_getitem.lookup) ?_ (by with_unfolding_all rfl)
  refine getItem_tuple_step hk hst ht (Heap.IsSliceOf.new _ vl vu vs) pl pu ps ?_ (by rw [← r.length]; exact hz)
  exact Inv.newT (tk := s4.toks) I5 (vals_step r k st) (Nat.le_trans (stepL_len _ hk (by omega)) hz) q
def gStep (st : Int) : D → D → (R → Prop) → Prop := fun d e q => match d, e with
  | .tuple ds, .int k => 0 ≤ k ∧ q (.im (.tuple (stepL ds k st)))
  | _, _ => False
variable {c : Ct} {wa wl : WE}
theorem ok_step {st : Int} : Ok2 c (oStep c.K st) (gStep st) := fun G H σ ρ v v' r r' d e Qd Q rl rr rr' h1 h2 q hg => by
  cases d with
  | tuple ds =>
    cases e with
    | int k =>
      obtain ⟨a1, us, rfl, t1, p1⟩ := vw_tup rl rr h1
      have e2 := vw_int rl rr' h2
      subst e2
      have q' : 0 ≤ k ∧ Qd (.im (.tuple (stepL ds k st))) ρ := q
      exact ⟨k, rfl, a1, us, k, rfl, rfl, q'.1, (t1.mono rl.ext).sq, got_tup hg rl (rp_step p1 k st) q'.2⟩
    | _ => exact q.elim
  | _ => exact q.elim
theorem d_step {st : Int} {kk : Nat} {p1 p3 pos : Pos} (ha : DE X c e wa) (hl : DE X c lo wl) (hst : 2 ≤ st := by decide) (hK : X.K = c.K := by rfl) : DE X c (.Subscript e (.Slice (some lo) none (some (.Constant (.int st) kk p1)) p3) pos) (w2 (v2 (gStep st)) wa wl) :=
  PEw (pe_step hst ha hl) fun σ H Q h => le2 (snd2 (by rw [hK]; exact ok_step)) h
/-! ### sorted, of at most one item -/
def rSortS (K : PySem.W.Frag) : List V → Hp → VK → Prop := fun vs H Q => ∃ (a : Addr) (xs : List V), vs = [V.ref a] ∧ SqL K H a xs ∧ xs.length < 2 ∧ ∀ p, H p = none → Q (.ref p) (upd H p (.lst xs))
theorem perm_short {α : Type} : ∀ {l m : List α}, m.Perm l → l.length < 2 → m = l
  | [], m, h, _ => h.eq_nil
  | [x], m, h, _ => List.perm_singleton.mp h
  | _ :: _ :: _, _, _, h => absurd h (by simp)
theorem cr_sortedS : CallR X (.builtin "sorted") (rSortS X.K) := by
  intro pins s σ H vs us Q I r h
  obtain ⟨a, xs, rfl, hs, hl1, q⟩ := h
  obtain ⟨its, rv, hl, hz⟩ := I.list hs
  rw [Vals.ref1 r]
  have hlen := rv.length
  refine Srt.sorted_any hl.isList (by omega) (fun h2 => absurd h2 (by omega)) fun out hp => ?_
  obtain rfl : out = its := perm_short hp (by omega)
  obtain ⟨ep, he'⟩ := PyProof.Rows.sortedAll_at s.heap out out.toArray
  exact ⟨.ref _, upd H (s.heap.objs.size + 1) (.lst xs), I.laid (t' := s.toks) (fun _ _ => PyProof.Rows.sortedAll_old) (Nat.le_succ _) ⟨hz, out, ep, rv, he'⟩, rfl, q _ (I.hok.fresh (Nat.le_succ _))⟩
theorem sortD_short {ds : List D} (h : ds.length < 2) : sortD ds = ds := by
  match ds, h with
  | [], _ => exact List.mergeSort_nil
  | [x], _ => exact List.mergeSort_singleton x
def gSortZ : D → (R → Prop) → Prop := fun d q => match d with
  | .list ds => (((PyData.hasDictAll ds = false ∧ PySem.W.AllAlike ds ∧ PySem.W.Sortable ds) ∧ ∀ d ∈ ds, d.depth ≤ 60) ∨ ds.length < 2) ∧ q (.tmp (sortD ds))
  | .tuple ds => ((PyData.hasDictAll ds = false ∧ PySem.W.AllAlike ds ∧ PySem.W.Sortable ds) ∧ ∀ d ∈ ds, d.depth ≤ 60) ∧ q (.tmp (sortD ds))
  | _ => False
variable {k : Nat} {p pos : Pos} {ws : WA}
/-- sorted(x) of a list or a tuple of data; a list of one item may hold what it will -/
theorem d_sortedZ (hr : Rm k X.A) (hg : Gl X "sorted") (hm : X.mg "sorted" = none) (ha : DA X c [e] ws) (hK : X.K = c.K := by rfl) (he : starEach [e] X.env = (false, eval e X.env) :: starEach [] X.env := by rfl) (hpl : (backTo pos (starEach [] X.env)).any (·.1) = false := by rfl) : DE X c (.Call (.Name "sorted" p) [e] [] pos) (wA (vA1 gSortZ) ws) :=
  d_callB (CallR.or (CallR.or (cr_sortedX hr.u66) cr_sortedS) (cr_sortedTup hr.u66)) (sndA1 fun G H σ ρ v r d Qd Q rl rr h1 q hg => by
    cases d with
    | list ds =>
      obtain ⟨q0, q⟩ := q
      obtain ⟨a1, us, rfl, t1, p1⟩ := vw_lst rl rr h1
      rcases q0 with ⟨⟨s1, s2, s3⟩, s4⟩ | hs
      · exact .inl (.inl ⟨a1, us, ds, rfl, SqL.of t1, RpAll.dp _ _ (by rw [hK]; exact RpAll.mono rl.ext _ _ p1) s1, s2, s3, s4, fun p' ys hP hp => got_lst hg rl (paired_rp (hP _ (rp_paired p1))) q p' hp⟩)
      · rw [sortD_short hs] at q
        exact .inl (.inr ⟨a1, us, rfl, SqL.of t1, by rw [RpAll.length p1]; exact hs, got_lst hg rl p1 q⟩)
    | tuple ds =>
      obtain ⟨⟨⟨s1, s2, s3⟩, s4⟩, q⟩ := q
      obtain ⟨a1, us, rfl, t1, p1⟩ := vw_tup rl rr h1
      exact .inr ⟨a1, us, ds, rfl, by rw [hK]; exact (t1.mono rl.ext).sq, RpAll.dp _ _ (by rw [hK]; exact RpAll.mono rl.ext _ _ p1) s1, s2, s3, s4, fun p' ys hP hp => got_lst hg rl (paired_rp (hP _ (rp_paired p1))) q p' hp⟩
    | _ => exact q.elim) hg hm (by decide +kernel) ha (he := he) (hpl := hpl)
end
/-! ### x, y = a, b where x or y is a cell: a tuple is made and taken apart -/
section
variable {X : Cx} {c : Ct} {a b t1 t2 : Expr} {pos pt pt2 : Pos} {wa wb : WE} {i j kt k2 : Nat}
theorem d_parC (hc : X.calm = true) (hp1 : PG X t1 (gName i)) (hp2 : PG X t2 (gName j)) (ha : DE X c a wa) (hb : DE X c b wb)
    (hn : (assignEach [t1, t2] X.env).length = 2 := by rfl) (hst : (assignEach [t1, t2] X.env).findIdx? (·.1) = none := by rfl)
    (hsa : starEach [a, b] X.env = (false, eval a X.env) :: starEach [b] X.env := by rfl) (hsb : starEach [b] X.env = (false, eval b X.env) :: starEach [] X.env := by rfl)
    (hs : swapsWithSole [.Tuple [t1, t2] kt pt] (.Tuple [a, b] k2 pt2) pos.line X.env = pure false := by rfl) (hw : swappedStores [.Tuple [t1, t2] kt pt] (.Tuple [a, b] k2 pt2) X.env = pure none := by rfl)
    (h1 : (assignEach [.Tuple [t1, t2] kt pt] X.env).map (·.2) = [assign (.Tuple [t1, t2] kt pt) X.env] := by rfl)
    (e1 : (assignEach [t1, t2] X.env).map (·.2) = assign t1 X.env :: (assignEach [t2] X.env).map (·.2) := by rfl) (e2 : (assignEach [t2] X.env).map (·.2) = assign t2 X.env :: (assignEach [] X.env).map (·.2) := by rfl) :
    DS X c (.Assign [.Tuple [t1, t2] kt pt] (.Tuple [a, b] k2 pt2) pos) (wPar i j wa wb) :=
  PSw (ps_asg (pe_tup (pa_cons ha (pa_cons hb pa_nil hsb) hsa)) (pg_tup hc (pgs_cons hp1 (pgs_cons hp2 pgs_nil e2) e1) hn hst) hs hw h1) fun D σ H ⟨G, ρ, P, rl, hw, g1, g2, g3, g4, g5⟩ => ⟨G, ρ, _, P.ex, rl, hw, fun v r ρ1 G1 H1 n1 rr fr q => by
    obtain ⟨G2, ρ2, r1, n2, _, rr1, fr1, l1, q1⟩ := hold_ok rl n1 rr fr q
    refine ⟨G2, ρ2, _, P.ex, n2.r, q1, fun v' r' ρ3 G3 H3 n3 rr3 fr3 q3 => ?_, g5.trans rl n2⟩
    obtain ⟨G4, ρ4, r2, n4, n34, rr4, fr4, l4, q4⟩ := hold_ok n2.r n3 rr3 fr3 q3
    have rr1' := RR.thru rr1 l1 n4
    obtain ⟨ρ6, n6, q6⟩ := par_ok rl (n2.trans rl n4) rr1' fr1 l1 rr4 (fr4.trans n2) l4 (fun ds ds' b e1 e2 e3 e4 => by
      subst e1 e2
      obtain ⟨a1, vs1, f1, _, f3, _, f5, _⟩ := rr1
      rw [e3] at f1; cases f1
      rcases fr4 b e4 with z | z
      · rw [f3] at z; cases z
      · exact f5 z) q4
    refine ⟨Nat.le_trans (show 2 ≤ 100 by decide) (by decide), fun p hp => ⟨p, [v, v'], rfl, SqT.of upd_same, rfl, ?_⟩⟩
    exact ⟨v, _, rfl, v', _, rfl, rfl, g1 _ _ _ _ (n6.trans rl (Nw.new_any n6.r hp)) q6⟩, g5⟩
end
end Tr

namespace Tr
open PySem L2
/-! ### comprehensions of two clauses -/
def wCmp2 (vs vs1 : List Nat) (g : WG) (t : WT) (wi1 : WI) (g1 : WG) (t1 : WT) (we : WE) : List D → List D → Rn → (List D → Rn → Prop) → Prop
  | [], acc, ρ, Q => Q acc ρ
  | d :: ds, acc, ρ, Q => g d (wipeR vs ρ) (fun ρ1 => t ρ1 (fun k ρ2 => IfW k (wi1 ρ2 (fun es ρ3 => wCmp vs1 g1 t1 we es acc ρ3 fun acc' ρ4 => wCmp2 vs vs1 g t wi1 g1 t1 we ds acc' (wipeR vs1 ρ4) Q) (fun _ => False)) (wCmp2 vs vs1 g t wi1 g1 t1 we ds acc ρ2 Q)) fun _ => False) fun _ => False
structure Cmp2W (vs vs1 : List Nat) (g : WG) (t : WT) (wi1 : WI) (g1 : WG) (t1 : WT) (we : WE) (ds : List D) (ρ : Rn) (Q : List D → Rn → Prop) : Prop where
  run : wCmp2 vs vs1 g t wi1 g1 t1 we ds [] ρ Q
def wLc2 (vs vs1 : List Nat) (wi : WI) (g : WG) (t : WT) (wi1 : WI) (g1 : WG) (t1 : WT) (we : WE) : WE := fun ρ Qd Qx => wi ρ (fun ds ρ1 => Cmp2W vs vs1 g t wi1 g1 t1 we ds ρ1 fun ys ρ2 => Qd (.tmp ys) (resR ρ1 vs (wipeR vs ρ2))) Qx
theorem wipe_sub {vs vs1 : List Nat} {σ : L2.St} (h : ∀ i ∈ vs1, i ∈ vs) : wipe (wipe σ vs1) vs = wipe σ vs :=
  wipe_congr (wipe_length σ vs1) fun j hj => wipe_ne fun z => hj (h j z)
section
variable {X : Cx} {c : Ct} {pr pr1 : Bool}
theorem lc2_le {wi wi1 : WI} {g g1 : WG} {t t1 : WT} {we : WE} {vs vs1 : List Nat} (hsub : ∀ i ∈ vs1, i ∈ vs) {σ : L2.St} {H : Hp} {Q : VK} (h : LE c (wLc2 vs vs1 wi g t wi1 g1 t1 we) σ H Q) :
    tLc2 (LI pr c wi) (LGv pr vs c.in_ g) (LT c.in_ t) (LI pr1 c.in_ wi1) (LGv pr1 vs1 c.in_ g1) (LT c.in_ t1) (LE c.in_ we) vs vs1 σ H Q := by
  obtain ⟨G, ρ, Qd, Qx, rl, hw, hQ, hX⟩ := h
  refine ⟨G, ρ, _, Qx, rl, hw, fun ds ρ1 G1 H1 J n1 hW q => fun Dl hDl => ?_, hX⟩
  have gDl : G1 Dl = none := by
    cases e : G1 Dl with
    | none => rfl
    | some o => rw [n1.r.ext Dl o e] at hDl; cases hDl
  obtain ⟨rw_, ow_⟩ := rel_wipe vs n1.r
  have potD : ¬ PotAt c.pa Dl := fun z => (n1.r.potT z).1 hDl
  have noX : ∀ (G H : Hp) (σ : L2.St) (ρ : Rn), LX c.in_ G H σ ρ fun _ => False := fun _ _ _ _ _ _ _ _ _ _ _ _ _ z => z.elim
  refine ⟨fun i m H' => m = ds.length - i ∧ i ≤ ds.length ∧ ∃ G' ρ' acc vacc, Nw c.K c.pa c.le G1 H1 (wipe σ vs) (wipeR vs ρ1) G' H' (wipe σ vs) (wipeR vs ρ') ∧ H' Dl = some (.lst vacc) ∧ G' Dl = none ∧ ¬ Own (wipe σ vs) (wipeR vs ρ') Dl ∧ RpAll c.K G' vacc acc ∧
      wCmp2 vs vs1 g t wi1 g1 t1 we (ds.drop i) acc ρ' fun ys ρ2 => Qd (.tmp ys) (resR ρ1 vs (wipeR vs ρ2)),
    ⟨_, rfl, Nat.zero_le _, G1, ρ1, [], [], Nw.poke (Nw.refl rw_) hDl gDl (fun z => (rw_.owT z).1 hDl) potD, upd_same, gDl, fun z => (rw_.owT z).1 hDl, .nil, q.run⟩, ?_⟩
  rintro i m H' ⟨rfl, hil, G', ρ', acc, vacc, n2, hD2, gD2, oD2, ra, q2⟩
  by_cases hlt : i < ds.length
  · have hd : ds[i]? = some ds[i] := List.getElem?_eq_getElem hlt
    rw [List.drop_eq_getElem_cons hlt] at q2
    refine .inr ⟨((hW G' H' n2.a.g n2.r.ext i).1 _ hd).1, fun H3 => ∃ G3 ρ3 acc vacc, Nw c.K c.pa c.le G1 H1 (wipe σ vs) (wipeR vs ρ1) G3 H3 (wipe σ vs) (wipeR vs ρ3) ∧ H3 Dl = some (.lst vacc) ∧ G3 Dl = none ∧ ¬ Own (wipe σ vs) (wipeR vs ρ3) Dl ∧ RpAll c.K G3 vacc acc ∧
      wCmp2 vs vs1 g t wi1 g1 t1 we (ds.drop (i + 1)) acc ρ3 fun ys ρ2 => Qd (.tmp ys) (resR ρ1 vs (wipeR vs ρ2)), fun H3 h3 => ⟨ds.length - (i + 1), by omega, rfl, hlt, h3⟩, fun x H4 hy => ?_⟩
    obtain ⟨n4, y4⟩ := yld_ok hW n2.a.g n2.r hd hy
    refine ⟨G', wipeR vs ρ', ds[i], _, _, n4.r, y4, q2, fun σ6 ρ6 G6 H6 n6 w6 q6 => ⟨w6.trans wipe_idem, ?_⟩⟩
    have w6' : wipe σ6 vs = wipe σ vs := w6.trans wipe_idem
    have n46 := n4.trans n2.r n6
    refine ⟨G6, ρ6, _, _, n6.r, q6, fun k ρ7 G7 H7 n7 q7 => ?_, noX _ _ _ _⟩
    have n47 := n46.trans n2.r n7
    cases k with
    | false =>
      have q7 := q7.f rfl
      obtain ⟨k1, k2, k3⟩ := n47.kept hD2 gD2 oD2 potD
      have n27 := n2.trans rw_ n47
      exact ⟨G7, ρ7, acc, vacc, n27.wiped w6', k1, k2, fun z => k3 ((by
        obtain ⟨_, o1⟩ := rel_wipe vs n7.r
        rw [w6'] at o1
        exact o1 _ z)), RpAll.mono n47.a.g _ _ ra, q7⟩
    | true =>
      have q7 := q7.t rfl
      refine ⟨G7, ρ7, _, _, n7.r, q7, fun es ρ8 G8 H8 J1 n8 hW1 q8 => ?_, noX _ _ _ _⟩
      have n48 := n47.trans n2.r n8
      obtain ⟨k1, k2, k3⟩ := n48.kept hD2 gD2 oD2 potD
      have n28 := n2.trans rw_ n48
      have nw0 : Nw c.K c.pa c.le G1 H1 (wipe σ vs) (wipeR vs ρ1) G8 H8 (wipe σ6 vs1) (wipeR vs1 ρ8) := n28.wiped rfl
      have o0 : ∀ b, Own (wipe σ6 vs1) (wipeR vs1 ρ8) b → Own σ6 ρ8 b := (rel_wipe vs1 n8.r).2
      refine ⟨fun j k H' => k = es.length - j ∧ j ≤ es.length ∧ ∃ G' ρ' acc vacc, Same G8 G' ∧ Nw c.K c.pa c.le G1 H1 (wipe σ vs) (wipeR vs ρ1) G' H' (wipe σ6 vs1) (wipeR vs1 ρ') ∧ H' Dl = some (.lst vacc) ∧ G' Dl = none ∧ ¬ Own (wipe σ6 vs1) (wipeR vs1 ρ') Dl ∧ RpAll c.K G' vacc acc ∧
          wCmp vs1 g1 t1 we (es.drop j) acc ρ' fun acc' ρ4 => wCmp2 vs vs1 g t wi1 g1 t1 we (ds.drop (i + 1)) acc' (wipeR vs1 ρ4) fun ys ρ2 => Qd (.tmp ys) (resR ρ1 vs (wipeR vs ρ2)),
        ⟨_, rfl, Nat.zero_le _, G8, ρ8, acc, vacc, Same.refl _, nw0, k1, k2, fun z => k3 (o0 _ z), RpAll.mono n48.a.g _ _ ra, q8⟩, ?_⟩
      rintro j k H' ⟨rfl, hjl, G', ρ', acc, vacc, sm, n2, hD2, gD2, oD2, ra, q2⟩
      by_cases hlt1 : j < es.length
      · have hd : es[j]? = some es[j] := List.getElem?_eq_getElem hlt1
        rw [List.drop_eq_getElem_cons hlt1] at q2
        refine .inr ⟨((hW1 G' H' sm n2.r.ext j).1 _ hd).1, fun H3 => ∃ G3 ρ3 acc vacc, Same G8 G3 ∧ Nw c.K c.pa c.le G1 H1 (wipe σ vs) (wipeR vs ρ1) G3 H3 (wipe σ6 vs1) (wipeR vs1 ρ3) ∧ H3 Dl = some (.lst vacc) ∧ G3 Dl = none ∧ ¬ Own (wipe σ6 vs1) (wipeR vs1 ρ3) Dl ∧ RpAll c.K G3 vacc acc ∧
          wCmp vs1 g1 t1 we (es.drop (j + 1)) acc ρ3 fun acc' ρ4 => wCmp2 vs vs1 g t wi1 g1 t1 we (ds.drop (i + 1)) acc' (wipeR vs1 ρ4) fun ys ρ2 => Qd (.tmp ys) (resR ρ1 vs (wipeR vs ρ2)), fun H3 h3 => ⟨es.length - (j + 1), by omega, rfl, hlt1, h3⟩, fun x H4 hy => ?_⟩
        obtain ⟨n4, y4⟩ := yld_ok hW1 sm n2.r hd hy
        refine ⟨G', wipeR vs1 ρ', es[j], _, _, n4.r, y4, q2, fun σa ρa Ga Ha na wa qa => ⟨wa.trans wipe_idem, ?_⟩⟩
        have wa' : wipe σa vs1 = wipe σ6 vs1 := wa.trans wipe_idem
        have n4a := n4.trans n2.r na
        refine ⟨Ga, ρa, _, _, na.r, qa, fun k ρb Gb Hb nb qb => ?_, noX _ _ _ _⟩
        have n4b := n4a.trans n2.r nb
        cases k with
        | false =>
          have qb := qb.f rfl
          obtain ⟨k1, k2, k3⟩ := n4b.kept hD2 gD2 oD2 potD
          have n2b := n2.trans rw_ n4b
          exact ⟨Gb, ρb, acc, vacc, sm.trans n4b.a.g, n2b.wiped wa', k1, k2, fun z => k3 ((by
            obtain ⟨_, o1⟩ := rel_wipe vs1 nb.r
            rw [wa'] at o1
            exact o1 _ z)), RpAll.mono n4b.a.g _ _ ra, qb⟩
        | true =>
          have qb := qb.t rfl
          refine ⟨Gb, ρb, _, _, nb.r, qb, fun v r ρe Ge He ne rr fr qe => ?_, noX _ _ _ _⟩
          obtain ⟨G9, d, ρ9, s9, A9, O9, _, r9, hd9, hz9, q9⟩ := fz_ok nb.r ne.a ne.o ne.r rr fr qe
          have n9 : Nw c.K c.pa c.le Gb Hb σa ρb G9 He σa ρ9 := ⟨A9, O9, r9⟩
          have n49 := n4b.trans n2.r n9
          obtain ⟨k1, k2, k3⟩ := n49.kept hD2 gD2 oD2 potD
          have n29 := n2.trans rw_ n49
          have k4 : ¬ Own (wipe σ6 vs1) (wipeR vs1 ρ9) Dl := fun z => k3 (by
            obtain ⟨_, o1⟩ := rel_wipe vs1 r9
            rw [wa'] at o1
            exact o1 _ z)
          refine ⟨vacc, k1, by rw [RpAll.length ra]; exact Nat.lt_of_lt_of_le hz9 (by decide), G9, ρ9, acc ++ [d], vacc ++ [v], sm.trans n49.a.g, Nw.poke (n29.wiped wa') hDl k2 k4 potD, upd_same, k2, k4, RpAll.append (RpAll.mono n49.a.g _ _ ra) (.cons hd9 .nil), q9⟩
      · have e : j = es.length := by omega
        subst e
        rw [List.drop_length] at q2
        have wf : wipe (wipe σ6 vs1) vs = wipe σ vs := (wipe_sub hsub).trans w6'
        refine .inl ⟨(hW1 G' H' sm n2.r.ext _).2 rfl, G', wipeR vs1 ρ', acc, vacc, n2.wiped wf, hD2, gD2, fun z => oD2 (by
          obtain ⟨_, o1⟩ := rel_wipe vs n2.r
          rw [wf] at o1
          exact o1 _ z), ra, q2⟩
  · have e : i = ds.length := by omega
    subst e
    rw [List.drop_length] at q2
    obtain ⟨nb, ob⟩ := comp_back n1.r n2
    refine .inl ⟨(hW G' H' n2.a.g n2.r.ext _).2 rfl, hQ (.ref Dl) (.tmp acc) _ G' H' (n1.trans rl nb) ⟨Dl, _, rfl, gD2, hD2, .l ra, fun z => ?_, potD⟩ (fun a e => by cases e; exact .inl (n1.a.p Dl hDl)) q2⟩
    rcases ob Dl z with y | y
    · exact (n1.r.owT y).1 hDl
    · exact oD2 y
variable {elt tg iter tg1 iter1 : Expr} {ifs ifs1 : List Expr} {scope : Scope} {own : List (Str × Nat)} {vs1 : List Nat} {pos spos py : Pos} {wi wi1 : WI} {g g1 : WG} {t t1 : WT} {we : WE}
theorem d_lc2 (hc : X.calm = true) (hN : X.N.Nodup) (ok : blkC X.N X.env.scope scope own = true) (hv : ∀ i ∈ vs1, i ∈ own.map (·.2)) (hi : DI pr X c tg iter wi)
    (hg : ∀ s H C cl fp, DGv pr (own.map (·.2)) (blkX X scope s H C cl fp) c.in_ tg g) (ht : ∀ s H C cl fp, DTs (blkX X scope s H C cl fp) c.in_ ifs t)
    (hi1 : ∀ s H C cl fp, DI pr1 (blkX X scope s H C cl fp) c.in_ tg1 iter1 wi1)
    (hg1 : ∀ s H C cl fp, DGv pr1 vs1 (blkX X scope s H C cl fp) c.in_ tg1 g1) (ht1 : ∀ s H C cl fp, DTs (blkX X scope s H C cl fp) c.in_ ifs1 t1)
    (he : ∀ s H C cl fp, DE (blkX X scope s H C cl fp) c.in_ elt we) (hs : ∀ x, foldedSetIterable iter X.env x = pure x := by intro _; rfl) (hs1 : ∀ env x, foldedSetIterable iter1 env x = pure x := by intro _ _; rfl) :
    DE X c (.ListComp elt [⟨tg, iter, ifs, 0⟩, ⟨tg1, iter1, ifs1, 0⟩] scope pos) (wLc2 (own.map (·.2)) vs1 wi g t wi1 g1 t1 we) :=
  PEw (pe_lc2 hc hN hi (blkOk_by ok) hv hg ht hi1 hg1 ht1 he hs hs1) fun σ H Q h => lc2_le hv h
end
end Tr
namespace Tr
open PySem L2
section
variable {X : Cx} {c : Ct} {o e : Expr} {apos cpos : Pos} {wo wa : WE} {k : Nat}
/-! ### xs.count(x) of a list -/
def rCntD (K : PySem.W.Frag) : V → List V → Hp → VK → Prop := fun x xs H Q => ∃ (a : Addr) (y : V) (d : PyData) (ds : List PyData), x = V.ref a ∧ xs = [y] ∧ Dp K H (V.ref a) (.list ds) ∧ Dp K H y d ∧
  SeqAt.shaped (.list ds) = true ∧ SeqAt.shaped d = true ∧ Q (.int ((ds.countP fun z => PyData.eqv z d : Nat) : Int)) H
theorem mt_countD (hu : X.A.units + 65 < cLine) : MtR X "list.count" (rCntD X.K) := by
  intro pins s σ H x xs v us Q I rx rxs h
  obtain ⟨a, y, d, ds, rfl, rfl, hl, hy, sl, sd, q⟩ := h
  cases rx
  cases rxs with
  | cons ry rt =>
    rename_i uy ut
    cases rt
    obtain ⟨bs, r1⟩ := Dp.reads I d y uy hy ry
    have hxs : PyData.canLayAll0 ds = true := SeqAt.canLay_of_shaped sl
    have hroom : X.A.units + 1 + min (PyData.depthAll ds) d.depth < cLine := by
      have h1 := SeqAt.depth_of_shaped sd
      have h2 : min (PyData.depthAll ds) d.depth ≤ d.depth := Nat.min_le_right _ _
      omega
    cases hl with
    | lst hs ha =>
      obtain ⟨its, rv, hil, hlen⟩ := I.list hs
      obtain ⟨as, h4⟩ := Dp.readsAll I ds _ its ha rv
      obtain ⟨⟨cls, dd, data, sls⟩, n, ho, hc, hdn, hdt⟩ := hil
      simp only at hc hdt
      subst hc hdt
      exact PySem.SeqAt.count_list_data (vs := its.toArray) ⟨_, ho, rfl, n, rfl⟩ (show ReadsAll s.heap its.toArray.toList ds as from h4) r1 (PyData.plainAll_of_canLay0 _ hxs) (PyData.plain_of_canLay0 _ (SeqAt.canLay_of_shaped sd)) hroom
        ⟨.int ((ds.countP fun z => PyData.eqv z d : Nat) : Int), H, I.tok _, ⟨_, rfl⟩, q⟩
end
end Tr
namespace Tr
open PySem L2
section
variable {X : Cx} {c : Ct} {o e : Expr} {apos cpos : Pos} {wo : WE} {ws : WA} {k : Nat}
def fCnt : FM := fun r rs ρ Qd => match vw ρ r, rs with
  | some (.list ds), [x] => (match vw ρ x with
    | some d => (Shp (.list ds) ∧ Shp d) ∧ Qd (.im (.int (ds.countP fun z => PyData.eqv z d : Nat))) ρ
    | none => False)
  | _, _ => False
theorem s_cnt : SndM c (rCntD c.K) fCnt := fun G H σ ρ v r vs rs Qd Q rl hc rr rrs q hg => by
  unfold fCnt at q
  cases e1 : vw ρ r with
  | none => rw [e1] at q; exact q.elim
  | some d1 =>
    rw [e1] at q
    cases d1 with
    | list ds =>
      cases rrs with
      | nil => exact q.elim
      | cons h1 t1 =>
        cases t1 with
        | cons _ _ => exact q.elim
        | nil =>
          rename_i v2 r2
          have q : (match vw ρ r2 with
            | some d => (Shp (.list ds) ∧ Shp d) ∧ Qd (.im (.int (ds.countP fun z => PyData.eqv z d : Nat))) ρ
            | none => False) := q
          cases e2 : vw ρ r2 with
          | none => rw [e2] at q; exact q.elim
          | some d =>
            rw [e2] at q
            obtain ⟨⟨s1, s2⟩, q⟩ := q
            obtain ⟨a1, us, rfl, t1, _⟩ := vw_lst rl rr e1
            exact ⟨a1, v2, d, ds, rfl, rfl, Rp.dp _ _ (vw_ok rl rr e1) s1.2, Rp.dp _ _ (vw_ok rl h1.2 e2) s2.2, s1.1, s2.1, got_flat hg rl rfl q⟩
    | _ => exact q.elim
theorem d_count (hr : Rm k X.A) (ho : DE X c o wo) (ha : DA X c [e] ws) (hK : X.K = c.K := by rfl) (hbase : attributeBase o "count" X.env (eval o X.env) = eval o X.env := by rfl)
    (hfew : ((backTo cpos (starEach [e] X.env)).all (fun x => !x.1) && (backToKw cpos (keywordEach [] X.env)).all (fun x => x.1.isSome) && decide ([e].length + ([] : List Keyword).length + (if ([] : List Keyword).isEmpty then 0 else 1) < 30)) = true := by rfl)
    (hline : (apos.endLine == cpos.line) = true := by rfl) (hs : starEach [e] X.env = (false, eval e X.env) :: starEach [] X.env := by rfl) (hplain : (backTo cpos (starEach [] X.env)).any (·.1) = false := by rfl) : DE X c (.Call (.Attribute o "count" apos) [e] [] cpos) (wM "list" fCnt wo ws) :=
  d_bm PySem.F.plainAttrs_list PySem.F.slot_list_count PySem.F.type_list_count (hK ▸ mt_countD (by have := hr.r.un; omega)) s_cnt ho ha hbase hfew hline hs hplain
end
/-! ### defs without parameters -/
structure Df0 (K : PySem.W.Frag) (mg : Str → Option Value) (x : Str) (st : Stmt) : Prop where
  ex : ∃ (f : Addr) (fd : FuncData), Fun K x x st f fd ∧ mg x = some (.ref f) ∧ Binds K fd [] []
structure Fk0 (P : Program) (w : World) (K : PySem.W.Frag) (mg : Str → Option Value) (base : Heap) (k : Nat) (x : Str) (n : Nat) (tw : WS) : Prop where
  ex : ∃ (f : Addr) (fd : FuncData) (N : List Str), N.length = n ∧ FnG P w K mg base CX0 k f fd [] (spT K mg N 0 tw) ∧ mg x = some (.ref f) ∧ PySem.W.keepIn K (.ref f) = true ∧ Binds K fd [] []
theorem Fk0.mono {P : Program} {w : World} {K : PySem.W.Frag} {mg : Str → Option Value} {base : Heap} {j k : Nat} {x : Str} {n : Nat} {tw : WS} (h : Fk0 P w K mg base j x n tw) (e : j ≤ k) : Fk0 P w K mg base k x n tw := by
  obtain ⟨f, fd, N, h1, F, h3⟩ := h
  exact ⟨f, fd, N, h1, F.mono e, h3⟩
theorem fk0_of {P : Program} {w : World} {K : PySem.W.Frag} {mg : Str → Option Value} {base : Heap} {k n : Nat} {x : Str} {sm : Stmt} {N : List Str} {tw : WS} (F : Df0 K mg x sm) (S : FnScope N [] (defScope sm)) (hn : N.length = n) (hb : Bd P w K mg base k N x sm tw) : Fk0 P w K mg base (k + 1) x n tw := by
  obtain ⟨f, fd, h1, h2, h3⟩ := F
  exact ⟨f, fd, N, hn, FnG.of_body h1 S (fun vs H Q E q => q.1) fun cdv A outer s H vs Q E hr q => by
    obtain ⟨_, pa, le, q⟩ := q
    exact ⟨_, hb f cdv A outer s H E pa le hr, q⟩, h2, h1.kp, h3⟩
theorem d_fn0 {X : Cx} {c : Ct} {k n : Nat} {x : Str} {tw : WS} {p pos : Pos} (F : Fk0 X.prog X.w X.K X.mg X.base k x n tw) (hK : X.K = c.K) (hM : X.mg = c.mg) (hr : Rm k X.A) (hg : Gl X x) (hdb : (x == ("__debug__" : Str)) = false := by decide) :
    DE X c (.Call (.Name x p) [] [] pos) (wCallL n 0 tw wN) := by
  obtain ⟨f, fd, N, rfl, F, h1, h2, h3⟩ := F
  refine PEw (pe_callG0 F hr hg h1 h2 h3 .nil (E := E0) pass0 hdb) fun σ H Q ⟨G, ρ, Qd, Qx, rl, hw, hQ, hX⟩ => ?_
  obtain ⟨_, q⟩ := hw
  have := sp_call (Ec := E0) (np := 0) (Nat.zero_le _) rl (vs := []) (rs := []) .nil rfl q hQ fun _ _ _ _ _ _ _ _ _ z => z.elim
  rw [← hK, ← hM] at this
  exact this
theorem df0_mk {K : PySem.W.Frag} {h : Heap} {mg : Str → Option Value} {x : Str} {st : Stmt} {f : Addr} {oc : Value} {od an : Option Addr} {osl : Array (Option Value)} {kV doc pm cdv ct : Value} (hK : K.In h) (hG : h.Ns mainGlobals mg)
    (hb : ∀ (kV doc pm : Value) (an : Option Addr) (cdv ct : Value), bindArgs (PySem.W.fnOf x x (defArgs st) (defBody st) (defScope st) .none kV doc pm an cdv ct) ⟨[], []⟩ = pure [])
    (a : PySem.W.nsIn K mainGlobals x = some (some (.ref f))) (l : K.lookup f = some ⟨oc, od, .func (PySem.W.fnOf x x (defArgs st) (defBody st) (defScope st) .none kV doc pm an cdv ct), osl⟩) (c : PySem.W.codeIn K cdv x = true) (k : PySem.W.keepIn K (.ref f) = true) : Df0 K mg x st :=
  have F := fun_mk (st := st) l c k
  ⟨f, _, F, PySem.W.mg_of hK hG a, F.binds fun kV doc pm an cdv ct us hl => by
    cases us with
    | nil => exact hb kV doc pm an cdv ct
    | cons _ _ => cases hl⟩
/-! ### tuples that the module holds -/
structure GlT (K : PySem.W.Frag) (mg : Str → Option Value) (x : Str) (d : D) : Prop where
  ex : ∃ (v : V) (u : Value), mg x = some u ∧ RelV v u ∧ ∀ G, Rp K G v d
theorem d_globT {X : Cx} {c : Ct} {x : Str} {p : Pos} {d : D} (h : GlT X.K X.mg x d) (hK : X.K = c.K) (hg : Gl X x) (hd : (x == ("__debug__" : Str)) = false := by decide) : DE X c (.Name x p) (wC d) := by
  obtain ⟨v, u, h1, h2, h3⟩ := h
  exact d_glob (C8.pe_gc hg ⟨u, h1, h2⟩ hd) (hK ▸ h3)
theorem rp_held {K : PySem.W.Frag} {G : Hp} {a : Addr} {xs : List V} {ds : List D} {its : Array Value} {n : Nat} {sl : Array (Option Value)} (h : K.lookup a = some ⟨.type "tuple", none, .seq its n, sl⟩) (hs : its.size ≤ sizeLine) (hv : Vals xs its.toList) (hr : RpAll K G xs ds) : Rp K G (.ref a) (.tuple ds) :=
  .tup (.inr ⟨_, its, n, h, rfl, rfl, rfl, hs, hv⟩) hr
end Tr

namespace Tr
open PySem L2
section
variable {X : Cx} {c : Ct} {a b : Expr} {wa wb : WE} {pos : Pos}
/-- i // j, of great numbers -/
abbrev gDivW := gI (fun i j => .int (i / j)) CDivW
theorem d_fdivW (ha : DE X c a wa) (hb : DE X c b wb) : DE X c (.BinOp a .FloorDiv b pos) (w2 (v2 gDivW) wa wb) := d_op op_fdivW (snd2 (ok_I (fun _ _ => rfl) fun _ _ h => h)) ha hb
end
end Tr

namespace Tr
open PySem L2
/-! ### the sum of a tuple of ints -/
section
variable {X : Cx}
def rSumT (K : PySem.W.Frag) : List V → Hp → VK → Prop := fun vs H Q => ∃ (a : Addr) (ns : List Int), vs = [V.ref a] ∧ (SqL K H a (ns.map V.int) ∨ SqT K H a (ns.map V.int)) ∧ Q (.int ns.sum) H
theorem cr_sumT (hc : X.calm = true) : CallR X (.builtin "sum") (rSumT X.K) := by
  intro pins s σ H vs us Q I r h
  obtain ⟨a, ns, rfl, hs, q⟩ := h
  rw [Vals.ref1 r]
  rcases hs with hs | hs
  · obtain ⟨its, rv, hl, _⟩ := I.list hs
    exact sum_raw (I.ok.hd hc) hl.isList rv.ints fun h' tk t' hk => ⟨.int _, H, I.kept hk, ⟨_, rfl⟩, q⟩
  · obtain ⟨its, rv, hl, _⟩ := I.tuple hs
    obtain ⟨xs, e⟩ := rv.ints.allInts.items
    have hn : PySem.numsOf (PySem.intItems xs).toList = ns := by rw [← e]; exact rv.ints.numsOf
    rw [PySem.nums_intItems] at hn
    rw [e] at hl
    refine PySem.W.ktm_sumG (I.ok.hd hc) hl fun h' tk t' hk => ?_
    rw [PySem.preSum_eq, List.take_of_length_le (by simp), hn]
    exact ⟨.int _, H, I.kept hk, ⟨_, rfl⟩, q⟩
end
section
variable {X : Cx} {c : Ct} {e : Expr} {p pos : Pos} {ws : WA}
def gSumT : D → (R → Prop) → Prop := fun d q => match d with
  | .list ds => (match intsOf ds with
    | some ns => q (.im (.int ns.sum))
    | none => False)
  | .tuple ds => (match intsOf ds with
    | some ns => q (.im (.int ns.sum))
    | none => False)
  | _ => False
theorem d_sumT (hc : X.calm = true) (hg : Gl X "sum") (hm : X.mg "sum" = none) (ha : DA X c [e] ws) (hK : X.K = c.K := by rfl) (he : starEach [e] X.env = (false, eval e X.env) :: starEach [] X.env := by rfl) (hpl : (backTo pos (starEach [] X.env)).any (·.1) = false := by rfl) : DE X c (.Call (.Name "sum" p) [e] [] pos) (wA (vA1 gSumT) ws) :=
  d_callB (cr_sumT hc) (sndA1 fun G H σ ρ v r d Qd Q rl rr h1 q hg => by
    rw [hK]
    cases d with
    | list ds =>
      obtain ⟨a1, us, rfl, t1, p1⟩ := vw_lst rl rr h1
      have q' : (match intsOf ds with
        | some ns => Qd (.im (.int ns.sum)) ρ
        | none => False) := q
      cases e1 : intsOf ds with
      | none => rw [e1] at q'; exact q'.elim
      | some ns =>
        rw [e1] at q'
        have e2 := intsOf_map e1
        subst e2
        have e3 := RpAll.ints_inv p1
        subst e3
        exact ⟨a1, ns, rfl, .inl (SqL.of t1), got_flat hg rl rfl q'⟩
    | tuple ds =>
      obtain ⟨a1, us, rfl, t1, p1⟩ := vw_tup rl rr h1
      have q' : (match intsOf ds with
        | some ns => Qd (.im (.int ns.sum)) ρ
        | none => False) := q
      cases e1 : intsOf ds with
      | none => rw [e1] at q'; exact q'.elim
      | some ns =>
        rw [e1] at q'
        have e2 := intsOf_map e1
        subst e2
        have e3 := RpAll.ints_inv p1
        subst e3
        exact ⟨a1, ns, rfl, .inr (t1.mono rl.ext).sq, got_flat hg rl rfl q'⟩
    | _ => exact q.elim) hg hm (by decide +kernel) ha (he := he) (hpl := hpl)
end
end Tr

namespace TrZ
open PySem
/-! ### list(zip(xs, ys)) -/
theorem zip_nolen : typeLookup (.type "zip") "__len__" = pure none := by rw [typeLookup_type, builtinLookup_eq_fast]; kernel_rfl
theorem zip_nohint : typeLookup (.type "zip") "__length_hint__" = pure none := by rw [typeLookup_type, builtinLookup_eq_fast]; kernel_rfl
/-- addresses of pairs, growing -/
inductive Prs (h : Heap) : Addr → List Value → List (Value × Value) → Prop
  | nil {b : Addr} : Prs h b [] []
  | cons {b T : Addr} {x y : Value} {us : List Value} {ps : List (Value × Value)} : b ≤ T → IsPair h T x y → Prs h (T + 1) us ps → Prs h b (.ref T :: us) ((x, y) :: ps)
def Below (N : Addr) (us : List Value) : Prop := ∀ u ∈ us, ∃ T : Addr, u = .ref T ∧ T < N
theorem Prs.snoc {h : Heap} {T : Addr} {x y : Value} (hp : IsPair h T x y) : ∀ {us : List Value} {ps : List (Value × Value)} {b : Addr}, Prs h b us ps → Below T us → b ≤ T → Prs h b (us ++ [.ref T]) (ps ++ [(x, y)])
  | _, _, _, .nil, _, hb => .cons hb hp .nil
  | _, _, _, .cons h1 h2 t, hl, hb => .cons h1 h2 (Prs.snoc hp t (fun u hu => hl u (List.mem_cons_of_mem _ hu)) (by
      obtain ⟨T', e, hlt⟩ := hl _ List.mem_cons_self
      cases e
      exact hlt))
theorem Prs.keep {h h' : Heap} : ∀ {us : List Value} {ps : List (Value × Value)} {b : Addr}, (∀ c o, b ≤ c → h.get? c = some o → h'.get? c = some o) → Prs h b us ps → Prs h' b us ps
  | _, _, _, _, .nil => .nil
  | _, _, _, k, .cons h1 h2 t => .cons h1 (k _ _ h1 h2) (Prs.keep (fun c o hc e => k c o (Nat.le_trans h1 (Nat.le_of_succ_le hc)) e) t)
theorem Prs.len {h : Heap} : ∀ {us : List Value} {ps : List (Value × Value)} {b : Addr}, Prs h b us ps → us.length = ps.length
  | _, _, _, .nil => rfl
  | _, _, _, .cons _ _ t => by rw [List.length_cons, List.length_cons, t.len]
section
variable {prog : Program} {w : World} {A : Around} {E : Value → Shared → Prop} {s : Shared}
/-- the zip on its way -/
def ZSt (z TI TO i1 i2 l1 l2 S b0 : Addr) (xs ys : Array Value) (i : Nat) (h : Heap) : Prop :=
  IsPair h TI (.ref i1) (.ref i2) ∧ h.IsListIter i1 l1 i ∧ h.IsListIter i2 l2 i ∧ h.IsList l1 xs ∧ h.IsList l2 ys ∧
    ((IsZip h z TI TO .none ∧ ∃ a b, IsPair h TO a b) ∨ ∃ T f oT, IsZipHeld h z TI TO T f ∧ h.get? T = some oT ∧ b0 ≤ T)
structure ZAp (z TI TO i1 i2 l1 l2 S b0 : Addr) : Prop where
  D : ZipApart z TI TO i1 i2 l1 l2
  z : z < S
  TI : TI < S
  TO : TO < S
  i1 : i1 < S
  i2 : i2 < S
  l1 : l1 < S
  l2 : l2 < S
  b : S < b0
theorem ext_loop_zip {z TI TO i1 i2 l1 l2 S b0 : Addr} {xs ys : Array Value} (hh : A.handled = none) (Z : ZAp z TI TO i1 i2 l1 l2 S b0) (hn : min xs.size ys.size ≤ 1000000) (res : Value) {R : Result → Shared → Prop} (h0 : Heap) (s0 : Shared)
    (hR : ∀ h' us c', (∀ c o, c ≠ z → c ≠ TO → c ≠ i1 → c ≠ i2 → c ≠ S → h0.get? c = some o → h'.get? c = some o) → h'.get? S = some { cls := .type "list", dict := none, data := .seq us c', slots := #[] } → Prs h' b0 us.toList (xs.toList.zip ys.toList) → R (.ok (.ret res)) { s0 with heap := h' }) :
    ∀ (k i : Nat) (h : Heap) (acc : Array Value) (c : Nat), min xs.size ys.size - i = k → i ≤ min xs.size ys.size → ZSt z TI TO i1 i2 l1 l2 S b0 xs ys i h → (∀ c o, c ≠ z → c ≠ TO → c ≠ i1 → c ≠ i2 → c ≠ S → h0.get? c = some o → h.get? c = some o) → b0 ≤ h.objs.size →
      h.get? S = some { cls := .type "list", dict := none, data := .seq acc c, slots := #[] } → Prs h b0 acc.toList ((xs.toList.zip ys.toList).take i) → acc.size = i → Below h.objs.size acc.toList →
      codeAny (model prog w) A (.builtin "list.extend.loop" ⟨[.ref S, .ref z, res], []⟩) R { s0 with heap := h } := by
  have D := Z.D
  have zlen : (xs.toList.zip ys.toList).length = min xs.size ys.size := by rw [List.length_zip]; simp
  intro k
  induction k with
  | zero =>
    intro i h acc c hk hi st hkeep hbs hS hp hsz hbl
    have hin : i = min xs.size ys.size := by omega
    subst hin
    obtain ⟨hTI, h1, h2, hl1, hl2, hz⟩ := st
    have hend : xs[min xs.size ys.size]? = none ∨ ys[min xs.size ys.size]? = none := by
      rcases Nat.le_total xs.size ys.size with h | h
      · exact .inl (Array.getElem?_eq_none (by rw [Nat.min_eq_left h]; exact Nat.le_refl _))
      · exact .inr (Array.getElem?_eq_none (by rw [Nat.min_eq_right h]; exact Nat.le_refl _))
    rw [List.take_of_length_le (by rw [zlen]; exact Nat.le_refl _)] at hp
    have fin : ∀ h' : Heap, (∀ c o, c ≠ z → c ≠ TO → c ≠ i1 → c ≠ i2 → h.get? c = some o → h'.get? c = some o) → R (.ok (.ret res)) { s0 with heap := h' } := fun h' k' =>
      hR h' acc c (fun c o a1 a2 a3 a4 a5 e => k' c o a1 a2 a3 a4 (hkeep c o a1 a2 a3 a4 a5 e)) (k' S _ (Nat.ne_of_gt Z.z) (Nat.ne_of_gt Z.TO) (Nat.ne_of_gt Z.i1) (Nat.ne_of_gt Z.i2) hS)
        (Prs.keep (fun c o hc e => k' c o (Nat.ne_of_gt (Nat.lt_of_lt_of_le (Nat.lt_trans Z.z Z.b) hc)) (Nat.ne_of_gt (Nat.lt_of_lt_of_le (Nat.lt_trans Z.TO Z.b) hc)) (Nat.ne_of_gt (Nat.lt_of_lt_of_le (Nat.lt_trans Z.i1 Z.b) hc)) (Nat.ne_of_gt (Nat.lt_of_lt_of_le (Nat.lt_trans Z.i2 Z.b) hc)) e) hp)
    refine codeAny_builtin F.entry_extend_loop ?_
    rw [Around.under_plainId F.plain_extend_loop _]
    show wpAny _ A.in1 (pyNext (.ref z) >>= _) _ _ _
    rcases hz with ⟨hz, a, b, hTO⟩ | ⟨T, f, oT, hz, hT, r1⟩
    · exact wpAny_bind (wpAny_pyNext_zip_end hh D hz hTI hTO h1 h2 hl1 hl2 hend fun h' k' => wpAny_pure (fin h' k'))
    · exact wpAny_bind (wpAny_pyNext_zip_end_held hh D hz hT hTI h1 h2 hl1 hl2 hend fun h' k' => wpAny_pure (fin h' fun c o a1 _ a3 a4 e => k' c o a1 a3 a4 e))
  | succ k ih =>
    intro i h acc c hk hi st hkeep hbs hS hp hsz hbl
    obtain ⟨hTI, h1, h2, hl1, hl2, hz⟩ := st
    have hlt : i < min xs.size ys.size := by omega
    have hix : i < xs.size := Nat.lt_of_lt_of_le hlt (Nat.min_le_left ..)
    have hiy : i < ys.size := Nat.lt_of_lt_of_le hlt (Nat.min_le_right ..)
    have ex := Array.getElem?_eq_getElem hix
    have ey := Array.getElem?_eq_getElem hiy
    have etk : (xs.toList.zip ys.toList).take (i + 1) = (xs.toList.zip ys.toList).take i ++ [(xs[i], ys[i])] := by
      rw [List.take_add_one, List.getElem?_eq_getElem (by rw [zlen]; exact hlt)]
      simp
    have big : ∀ {c : Addr}, b0 ≤ c → c ≠ z ∧ c ≠ TO ∧ c ≠ i1 ∧ c ≠ i2 ∧ c ≠ S := fun {c} hc =>
      ⟨Nat.ne_of_gt (Nat.lt_of_lt_of_le (Nat.lt_trans Z.z Z.b) hc), Nat.ne_of_gt (Nat.lt_of_lt_of_le (Nat.lt_trans Z.TO Z.b) hc), Nat.ne_of_gt (Nat.lt_of_lt_of_le (Nat.lt_trans Z.i1 Z.b) hc), Nat.ne_of_gt (Nat.lt_of_lt_of_le (Nat.lt_trans Z.i2 Z.b) hc), Nat.ne_of_gt (Nat.lt_of_lt_of_le Z.b hc)⟩
    refine codeAny_builtin F.entry_extend_loop ?_
    rw [Around.under_plainId F.plain_extend_loop _]
    show wpAny _ A.in1 (pyNext (.ref z) >>= _) _ _ _
    have go : ∀ h' : Heap, (IsZipHeld h' z TI TO h.objs.size false ∨ ∃ T oT, IsZipHeld h' z TI TO T true ∧ h'.get? T = some oT ∧ b0 ≤ T) → h'.IsListIter i1 l1 (i + 1) → h'.IsListIter i2 l2 (i + 1) → IsPair h' h.objs.size xs[i] ys[i] → h'.objs.size = h.objs.size + 1 →
        (∀ c o, c ≠ z → c ≠ TO → c ≠ i1 → c ≠ i2 → h.get? c = some o → h'.get? c = some o) →
        wpAny (model prog w) A.in1 (updateSeq S (·.push (.ref h.objs.size)) >>= fun _ => again (.builtin "list.extend.loop" ⟨[.ref S, .ref z, res], []⟩)) (fun fin s' => match fin with | .done f => R (.ok f) s' | .again c' => c'.quiet = true ∧ codeAny (model prog w) A c' R s') (fun e s' => R (.error e) s') { s0 with heap := h' } := fun h' hz' a3 a4 a5 a6 hk' => by
      have hS' : h'.get? S = some { cls := .type "list", dict := none, data := .seq acc c, slots := #[] } := hk' S _ (Nat.ne_of_gt Z.z) (Nat.ne_of_gt Z.TO) (Nat.ne_of_gt Z.i1) (Nat.ne_of_gt Z.i2) hS
      have oth : ∀ b o, b ≠ S → h'.get? b = some o → (h'.update S (Obj.mapSeq (·.push (Value.ref h.objs.size)))).get? b = some o := fun b o hb e => (Heap.get?_update_other _ _ (Ne.symm hb)).trans e
      refine wpAny_bind (wpAny_updateSeq hS' rfl (wpAny_pure ⟨plainId_quiet F.plain_extend_loop _, ih (i + 1) _ (acc.push (.ref h.objs.size)) _ (by omega) hlt ⟨?_, ?_, ?_, ?_, ?_, .inr ?_⟩ (fun c o b1 b2 b3 b4 b5 e => oth c o b5 (hk' c o b1 b2 b3 b4 (hkeep c o b1 b2 b3 b4 b5 e))) ?_ (Heap.get?_update_self _ hS' rfl) ?_ (by rw [Array.size_push, hsz]) ?_⟩) (by rw [hsz, sizeLine_eq]; omega) (by show (acc.push (Value.ref h.objs.size)).size ≤ sizeLine + 1; rw [Array.size_push, hsz, sizeLine_eq]; omega))
      · exact oth _ _ (Nat.ne_of_lt Z.TI) (hk' _ _ D.TIz D.TITO D.TIi1 D.TIi2 hTI)
      · exact a3.at fun o e => oth _ o (Nat.ne_of_lt Z.i1) e
      · exact a4.at fun o e => oth _ o (Nat.ne_of_lt Z.i2) e
      · exact hl1.at fun o e => oth _ o (Nat.ne_of_lt Z.l1) (hk' _ o D.l1z D.l1TO D.l1i1 D.l1i2 e)
      · exact hl2.at fun o e => oth _ o (Nat.ne_of_lt Z.l2) (hk' _ o D.l2z D.l2TO D.l2i1 D.l2i2 e)
      · rcases hz' with hz' | ⟨T, oT, hz', hT', hb'⟩
        · exact ⟨_, false, _, oth _ _ (Nat.ne_of_lt Z.z) hz', oth _ _ (big hbs).2.2.2.2 a5, hbs⟩
        · exact ⟨T, true, oT, oth _ _ (Nat.ne_of_lt Z.z) hz', oth _ _ (big hb').2.2.2.2 hT', hb'⟩
      · rw [Heap.size_update, a6]
        exact Nat.le_succ_of_le hbs
      · rw [Array.toList_push, etk]
        refine Prs.snoc (oth _ _ (big hbs).2.2.2.2 a5) (Prs.keep (fun c o hc e => oth c o (big hc).2.2.2.2 (hk' c o (big hc).1 (big hc).2.1 (big hc).2.2.1 (big hc).2.2.2.1 e)) hp) hbl hbs
      · rw [Heap.size_update, a6, Array.toList_push]
        intro u hu
        rcases List.mem_append.mp hu with hu | hu
        · obtain ⟨T, e, hlt⟩ := hbl u hu
          exact ⟨T, e, Nat.lt_succ_of_lt hlt⟩
        · rw [List.mem_singleton] at hu
          exact ⟨_, hu, Nat.lt_succ_self _⟩
    rcases hz with ⟨hz, a, b, hTO⟩ | ⟨T, f, oT, hz, hT, r1⟩
    · exact wpAny_bind (wpAny_pyNext_zip_item D hz hTI hTO h1 h2 hl1 hl2 ex ey fun h' a1 a2 a3 a4 a5 a6 hk' => go h' (.inl a1) a3 a4 a5 a6 hk')
    · exact wpAny_bind (wpAny_pyNext_zip_item_held D hz hT hTI h1 h2 hl1 hl2 ex ey fun h' a1 a3 a4 a5 a6 hk' => go h' (.inr ⟨T, oT, a1, hk' _ _ (big r1).1 (big r1).2.2.1 (big r1).2.2.2.1 hT, r1⟩) a3 a4 a5 a6 fun c o b1 _ b3 b4 e => hk' c o b1 b3 b4 e)
theorem zip_hint {z TI TO : Addr} {f0 : Value} {Q : Bool → Shared → Prop} (hz : IsZip s.heap z TI TO f0) (h : Q true s) : wpAny (model prog w) A (Builtin.List.listLengthHint (.ref z)) Q E s := by
  have hT : s.TypeIs (.ref z) "zip" := ⟨_, hz, rfl⟩
  unfold Builtin.List.listLengthHint
  refine wpAny_bind (wpAny_specialOf hT zip_nolen ?_)
  show wpAny _ A (specialOf (Value.ref z) (Str.ofString "__length_hint__") >>= _) _ _ _
  refine wpAny_bind (wpAny_specialOf hT zip_nohint ?_)
  exact wpAny_pure h
/-- list(zip), the lists' items told -/
theorem call_list_zip {Q : Value → Shared → Prop} {z TI TO i1 i2 l1 l2 : Addr} {xs ys : Array Value} {a b : Value} (hh : A.handled = none) (D : ZipApart z TI TO i1 i2 l1 l2) (hz : IsZip s.heap z TI TO .none) (hTI : IsPair s.heap TI (.ref i1) (.ref i2)) (hTO : IsPair s.heap TO a b)
    (h1 : s.heap.IsListIter i1 l1 0) (h2 : s.heap.IsListIter i2 l2 0) (hl1 : s.heap.IsList l1 xs) (hl2 : s.heap.IsList l2 ys) (hn : min xs.size ys.size ≤ 1000000)
    (hQ : ∀ h' us c', (∀ c o, c ≠ z → c ≠ TO → c ≠ i1 → c ≠ i2 → s.heap.get? c = some o → h'.get? c = some o) → h'.get? s.heap.objs.size = some { cls := .type "list", dict := none, data := .seq us c', slots := #[] } → Prs h' (s.heap.objs.size + 1) us.toList (xs.toList.zip ys.toList) → Q (.ref s.heap.objs.size) { s with heap := h' }) :
    wpAny (model prog w) A (call (.type "list") [.ref z]) Q E s := by
  have li : ∀ {i l : Addr} {k : Nat}, s.heap.IsListIter i l k → i < s.heap.objs.size := fun ⟨_, e, _⟩ => Heap.lt_size e
  have ll : ∀ {l : Addr} {xs : Array Value}, s.heap.IsList l xs → l < s.heap.objs.size := fun ⟨_, e, _⟩ => Heap.lt_size e
  have Z : ZAp z TI TO i1 i2 l1 l2 s.heap.objs.size (s.heap.objs.size + 1) := ⟨D, Heap.lt_size hz, Heap.lt_size hTI, Heap.lt_size hTO, li h1, li h2, ll hl1, ll hl2, Nat.lt_succ_self _⟩
  refine callType_codes (Q₁ := fun obj s₁ => obj = .ref s.heap.objs.size ∧ s₁ = { s with heap := s.heap.push { cls := .type "list", data := .seq #[] } }) F.called_list (F.typeCall_list_1 _) F.entry_list_init
    (code_list_new _ ⟨rfl, rfl⟩) fun obj s₁ h₁ => ?_
  obtain ⟨rfl, rfl⟩ := h₁
  have hS : (s.heap.push { cls := .type "list", data := .seq #[] }).get? s.heap.objs.size = some { cls := .type "list", data := .seq #[] } := Heap.get?_push_size _ rfl
  refine ⟨⟨_, hS, rfl⟩, F.args_list_init_2 _ _, ?_⟩
  show wpAny _ _ (do let old ← Builtin.List.listItems (.ref s.heap.objs.size); Builtin.List.listUpdate (.ref s.heap.objs.size) (fun _ => #[]); letGo old.toList.reverse; Builtin.List.listExtendWith (.ref s.heap.objs.size) (.ref z) .none) _ _ _
  refine wpAny_bind ?_
  unfold Builtin.List.listItems
  refine wpAny_bind (wpAny_seqItems hS rfl (wpAny_pure ?_))
  show wpAny _ _ (updateSeq s.heap.objs.size (fun _ => #[]) >>= fun _ => letGo (#[] : Array Value).toList.reverse >>= fun _ => Builtin.List.listExtendWith (.ref s.heap.objs.size) (.ref z) .none) _ _ _
  refine wpAny_bind (wpAny_updateSeq hS rfl ?_)
  have hS₂ := Heap.get?_update_self (Obj.mapSeq (fun _ => (#[] : Array Value))) hS rfl
  have oth : ∀ b o, b ≠ s.heap.objs.size → s.heap.get? b = some o → ((s.heap.push { cls := .type "list", data := .seq #[] }).update s.heap.objs.size (Obj.mapSeq (fun _ => (#[] : Array Value)))).get? b = some o :=
    fun b o hb e => (Heap.get?_update_other _ _ (Ne.symm hb)).trans (Heap.get?_push_of_some _ e)
  have ol : ∀ b o, s.heap.get? b = some o → ((s.heap.push { cls := .type "list", data := .seq #[] }).update s.heap.objs.size (Obj.mapSeq (fun _ => (#[] : Array Value)))).get? b = some o :=
    fun b o e => oth b o (Nat.ne_of_lt (Heap.lt_size e)) e
  have hsz2 : ((s.heap.push { cls := .type "list", data := .seq #[] }).update s.heap.objs.size (Obj.mapSeq (fun _ => (#[] : Array Value)))).objs.size = s.heap.objs.size + 1 := by rw [Heap.size_update, Heap.size_push]
  generalize ((s.heap.push { cls := .type "list", data := .seq #[] }).update s.heap.objs.size (Obj.mapSeq (fun _ => (#[] : Array Value)))) = g at hS₂ oth ol hsz2
  refine wpAny_bind (wpAny_letGo ?_)
  unfold Builtin.List.listExtendWith
  have hzg : IsZip g z TI TO .none := ol _ _ hz
  refine wpAny_bind (wpAny_typeOf (T := "zip") ⟨_, hzg, rfl⟩ ?_)
  have e1 : Builtin.List.listSameRef (.ref s.heap.objs.size) (.ref z) = false := by
    have : s.heap.objs.size ≠ z := Nat.ne_of_gt Z.z
    simp [Builtin.List.listSameRef, this]
  have e2 : (Value.type "zip" == Value.type "list") = false := by decide
  have e3 : (Value.type "zip" == Value.type "tuple") = false := by decide
  simp only [e1, e2, e3, Bool.or_false, Bool.false_eq_true, if_false]
  refine wpAny_bind (wpAny_pyIter_zip hzg ?_)
  refine wpAny_bind (wpAny_holding (zip_hint hzg ?_))
  have key : ∀ (g' : Heap) (c₁ : Nat), (∀ b o, b ≠ s.heap.objs.size → g.get? b = some o → g'.get? b = some o) → g'.objs.size = s.heap.objs.size + 1 → g'.get? s.heap.objs.size = some { cls := .type "list", dict := none, data := .seq #[] c₁, slots := #[] } →
      codeAny (model prog w) A.in1 (.builtin "list.extend.loop" ⟨[.ref s.heap.objs.size, .ref z, .none], []⟩) (fun r s' => r = .ok (.ret .none) ∧ Q (.ref s.heap.objs.size) s') { s with heap := g' } := fun g' c₁ k hsz hSg => by
    have up : ∀ b o, s.heap.get? b = some o → g'.get? b = some o := fun b o e => k b o (Nat.ne_of_lt (Heap.lt_size e)) (ol b o e)
    refine ext_loop_zip (A := A.in1) (b0 := s.heap.objs.size + 1) hh Z hn .none s.heap s (fun h' us c' k' hS' hp => ⟨rfl, hQ h' us c' (fun c o a1 a2 a3 a4 e => k' c o a1 a2 a3 a4 (Nat.ne_of_lt (Heap.lt_size e)) e) hS' hp⟩) (min xs.size ys.size) 0 g' #[] c₁ rfl (Nat.zero_le _)
      ⟨up _ _ hTI, h1.at fun o e => up _ o e, h2.at fun o e => up _ o e, hl1.at fun o e => up _ o e, hl2.at fun o e => up _ o e, .inl ⟨up _ _ hz, a, b, up _ _ hTO⟩⟩ (fun c o _ _ _ _ _ e => up c o e) (Nat.le_of_eq hsz.symm) hSg .nil rfl (fun u hu => nomatch hu)
  refine wpAny_ite_split (fun _ => ?_) (fun _ => wpAny_pure ⟨plainId_quiet F.plain_extend_loop _, ?_⟩)
  · refine wpAny_bind (wpAny_rule ?_)
    refine wpAny_bind ?_
    show wpAny _ _ (updateSeq s.heap.objs.size (·.push .none) >>= fun _ => updateSeq s.heap.objs.size (·.pop)) _ _ _
    refine wpAny_bind (wpAny_updateSeq hS₂ rfl ?_)
    have hS₃ := Heap.get?_update_self (Obj.mapSeq (·.push Value.none)) hS₂ rfl
    refine wpAny_updateSeq (hz := by seq_fits) hS₃ rfl ?_
    have hS₄ := Heap.get?_update_self (Obj.mapSeq (·.pop)) hS₃ rfl
    refine wpAny_pure ⟨plainId_quiet F.plain_extend_loop _, ?_⟩
    refine codeAny_mono (key _ _ (fun b o hb e => (Heap.get?_update_other _ _ (Ne.symm hb)).trans ((Heap.get?_update_other _ _ (Ne.symm hb)).trans e)) (by rw [Heap.size_update, Heap.size_update]; exact hsz2) hS₄) fun r s' h => ?_
    obtain ⟨rfl, h⟩ := h
    exact ⟨rfl, h⟩
  · refine codeAny_mono (key _ _ (fun _ _ _ e => e) hsz2 hS₂) fun r s' h => ?_
    obtain ⟨rfl, h⟩ := h
    exact ⟨rfl, h⟩
end
end TrZ
namespace Tr
open PySem L2 PyProof.Rows
/-- many new objects laid and tracked -/
theorem Inv.many {X : Cx} {pins : List (Addr × Obj)} {σ : L2.St} {H H' : Hp} {s : Shared} {h' : Heap} {t' : Nat} (I : Inv X pins σ H s) (k : ∀ b u, s.heap.get? b = some u → h'.get? b = some u)
    (ha : ∀ b u, H b = some u → H' b = some u) (hb : ∀ b u, H' b = some u → H b = some u ∨ (s.heap.objs.size ≤ b ∧ ObjOk X.prog X.w H' h' b u)) : Inv X pins σ H' { s with heap := h', toks := t' } := by
  refine I.un ⟨fun b o e n _ _ => k b o e, fun b o e n _ _ => ⟨o.slots, k b o e⟩, fun b o e n _ => ?_, fun b o e _ => ⟨o, k b o e⟩, fun b xs e => ha b _ e, fun b o u e => ha b _ e, fun b ps e => ⟨#[], by rw [ha b _ e]; simp⟩⟩ fun b u e => ?_
  · cases e' : H' b with
    | none => rfl
    | some u =>
      rcases hb b u e' with z | ⟨z, _⟩
      · rw [n] at z; cases z
      · exact absurd (Heap.lt_size e) (Nat.not_lt.mpr z)
  · rcases hb b u e with z | ⟨_, z⟩
    · exact (I.hok b u z).stay (fun c v _ q => k c v q) (fun c q => ha c _ q) fun c xs q => ha c _ q
    · exact z
/-- new pairs, one behind another -/
def rPairs : List (V × V) → List V → Hp → (List V → Hp → Prop) → Prop
  | [], acc, H, Q => Q acc H
  | (x, y) :: ps, acc, H, Q => ∀ (p : Addr) (o : Obj), o.dict = none → H p = none → rPairs ps (acc ++ [.ref p]) (upd H p (.frz o (.tup [x, y]))) Q
def pairO (x y : Value) : Obj := { cls := .type "tuple", data := .seq #[x, y] }
/-- .. by pairs that lie in a heap -/
theorem rPairs_run {P : Program} {w : World} {h' : Heap} {F : List V → Hp → Prop} : ∀ {us : List Value} {ps : List (Value × Value)} {b : Addr} (vp : List (V × V)) (acc : List V) (H : Hp), TrZ.Prs h' b us ps → Vals (vp.map (·.1)) (ps.map (·.1)) → Vals (vp.map (·.2)) (ps.map (·.2)) → (∀ c, b ≤ c → H c = none) → rPairs vp acc H F →
    ∃ (H' : Hp) (new : List V), F (acc ++ new) H' ∧ Vals new us ∧ (∀ c u, H c = some u → H' c = some u) ∧ ∀ c u, H' c = some u → H c = some u ∨ (b ≤ c ∧ ∀ H2 : Hp, ObjOk P w H2 h' c u)
  | _, _, b, vp, acc, H, .nil, r1, r2, hf, q => by
    cases vp with
    | nil => exact ⟨H, [], by rw [List.append_nil]; exact q, .nil, fun _ _ e => e, fun _ _ e => .inl e⟩
    | cons p ps => cases r1
  | _, _, b, vp, acc, H, .cons (T := T) (x := x) (y := y) h1 h2 t, r1, r2, hf, q => by
    cases vp with
    | nil => cases r1
    | cons p ps =>
      obtain ⟨v, v2⟩ := p
      cases r1 with
      | cons ra ra' =>
        cases r2 with
        | cons rb rb' =>
          have q' := q T (pairO x y) rfl (hf T h1)
          obtain ⟨H', new, hF, hv, k1, k2⟩ := rPairs_run (P := P) (w := w) ps _ _ t ra' rb' (fun c hc => by rw [upd_ne (Nat.ne_of_gt hc)]; exact hf c (Nat.le_trans h1 (Nat.le_of_succ_le hc))) q'
          refine ⟨H', .ref T :: new, by rw [List.append_assoc] at hF; exact hF, .cons rfl hv, fun c u e => k1 c u (by rw [upd_ne (ne_of_none e (hf T h1))]; exact e), fun c u e => ?_⟩
          rcases k2 c u e with z | ⟨z1, z2⟩
          · by_cases hc : c = T
            · subst hc
              rw [upd_same] at z
              cases z
              exact .inr ⟨h1, fun H2 => ⟨h2, by show 2 ≤ sizeLine; decide, [x, y], .cons ra (.cons rb .nil), ⟨_, h2, rfl, _, rfl⟩⟩⟩
            · rw [upd_ne hc] at z
              exact .inl z
          · exact .inr ⟨Nat.le_trans h1 (Nat.le_of_succ_le z1), z2⟩
theorem vals_toList : ∀ {xs : List V} {us : List Value}, Vals xs us → xs.length = us.length
  | _, _, .nil => rfl
  | _, _, .cons _ t => by rw [List.length_cons, List.length_cons, vals_toList t]
theorem vals_zip : ∀ {xs ys : List V} {us ws : List Value}, Vals xs us → Vals ys ws → Vals ((xs.zip ys).map (·.1)) ((us.zip ws).map (·.1)) ∧ Vals ((xs.zip ys).map (·.2)) ((us.zip ws).map (·.2))
  | _, _, _, _, .nil, _ => ⟨.nil, .nil⟩
  | _, _, _, _, .cons _ _, .nil => ⟨.nil, .nil⟩
  | _, _, _, _, .cons a t, .cons b t' => ⟨.cons a (vals_zip t t').1, .cons b (vals_zip t t').2⟩
def tListZip (K : PySem.W.Frag) (ta : TA) : TE := fun σ H Q => ta σ H fun vs H1 => ∃ a b xs ys, vs = [.ref a, .ref b] ∧ SqL K H1 a xs ∧ SqL K H1 b ys ∧ min xs.length ys.length ≤ 1000000 ∧ rPairs (xs.zip ys) [] H1 fun acc H2 => ∀ q, H2 q = none → Q (.ref q) (upd H2 q (.lst acc))
theorem pe_listZip {X : Cx} {e e2 : Expr} {ta : TA} {p p2 pos pos2 : Pos} (hc : X.calm = true) (hg1 : Gl X "list") (hm1 : X.mg "list" = none) (hg : Gl X "zip") (hm : X.mg "zip" = none) (ha : PA X [e, e2] ta)
    (hs : starEach [e, e2] X.env = (false, eval e X.env) :: starEach [e2] X.env := by rfl) (hpl : (backTo pos2 (starEach [e2] X.env)).any (·.1) = false := by rfl)
    (na : starEach [.Call (.Name "zip" p2) [e, e2] [] pos2] X.env = (false, eval (.Call (.Name "zip" p2) [e, e2] [] pos2) X.env) :: starEach [] X.env := by rfl) :
    PE X (.Call (.Name "list" p) [.Call (.Name "zip" p2) [e, e2] [] pos2] [] pos) (tListZip X.K ta) := by
  refine ⟨fun pins s σ H Q I h => ?_⟩
  refine Call_ (ld_blt I hg1 hm1 boot_list (PyProof.Rows.callWith_type1 (args_cons ?_ na) na))
  refine Call_ (ld_blt I hg hm PyProof.Rows.boot_zip (PyProof.Rows.callWith_type1 (thn (ha.run _ pins s σ H _ I h) fun us s1 ⟨vs, H1, I1, r1, q1⟩ => ?_) hs hpl))
  obtain ⟨a, b, xs, ys, ex, hqx, hqy, hn, q1⟩ := q1
  subst ex
  cases r1 with
  | cons r rr =>
    cases rr with
    | cons r' rr =>
      cases rr
      cases r
      cases r'
      obtain ⟨its, rv, p1, _⟩ := I1.list hqx
      obtain ⟨its2, rv2, p2, _⟩ := I1.list hqy
      refine call_zip_2 p1.isList p2.isList fun h' hz hTI hTO h1 h2 hsz hk => args_nil ?_
      have D := PySem.W.ktu_apart s1.heap.objs.size a b p1.lt p2.lt
      have m1 : min its.toArray.size its2.toArray.size ≤ 1000000 := by
        rw [List.size_toArray, List.size_toArray, ← vals_toList rv, ← vals_toList rv2]
        exact hn
      refine TrZ.call_list_zip (s := { s1 with heap := h' }) (I1.ok.hd hc) D hz hTI hTO h1 h2 (p1.isList.at fun o e => hk _ o e) (p2.isList.at fun o e => hk _ o e) m1 fun h'' us c' hk2 hS hp => ?_
      have big : ∀ {c : Addr}, c < s1.heap.objs.size → c ≠ s1.heap.objs.size + 4 ∧ c ≠ s1.heap.objs.size + 1 ∧ c ≠ s1.heap.objs.size ∧ c ≠ s1.heap.objs.size + 2 ∧ c ≠ s1.heap.objs.size + 3 := fun {c} hc => by
        exact ⟨Nat.ne_of_lt (Nat.lt_of_lt_of_le hc (Nat.le_add_right _ 4)), Nat.ne_of_lt (Nat.lt_of_lt_of_le hc (Nat.le_add_right _ 1)), Nat.ne_of_lt hc, Nat.ne_of_lt (Nat.lt_of_lt_of_le hc (Nat.le_add_right _ 2)), Nat.ne_of_lt (Nat.lt_of_lt_of_le hc (Nat.le_add_right _ 3))⟩
      have up : ∀ c o, s1.heap.get? c = some o → h''.get? c = some o := fun c o e => by
        obtain ⟨b1, b2, b3, b4, b5⟩ := big (Heap.lt_size e)
        exact hk2 c o b1 b5 b3 b2 (hk c o e)
      have n5 : h'.objs.size = s1.heap.objs.size + 5 := hsz
      have vz := vals_zip rv rv2
      rw [n5] at hS hp
      have hf : ∀ c : Addr, s1.heap.objs.size ≤ c → H1 c = none := fun c hc => I1.hok.fresh hc
      have hp' : TrZ.Prs h'' (s1.heap.objs.size + 6) us.toList (its.zip its2) := hp
      obtain ⟨H2, new, hF, hv, k1, k2⟩ := rPairs_run (P := X.prog) (w := X.w) (xs.zip ys) [] H1 hp' vz.1 vz.2 (fun c hc => hf c (Nat.le_trans (Nat.le_add_right _ 6) hc)) q1
      rw [List.nil_append] at hF
      have hq : H2 (s1.heap.objs.size + 5) = none := by
        cases e : H2 (s1.heap.objs.size + 5) with
        | none => rfl
        | some u =>
          rcases k2 _ u e with z | ⟨z, _⟩
          · rw [hf _ (Nat.le_add_right _ 5)] at z; cases z
          · exact absurd z (Nat.not_le.mpr (Nat.lt_succ_self _))
      have hb2 : ∀ c u, upd H2 (s1.heap.objs.size + 5) (.lst new) c = some u → H1 c = some u ∨ (s1.heap.objs.size ≤ c ∧ ObjOk X.prog X.w (upd H2 (s1.heap.objs.size + 5) (.lst new)) h'' c u) := fun c u e => by
        by_cases hcc : c = s1.heap.objs.size + 5
        · subst hcc
          rw [upd_same] at e
          cases e
          refine .inr ⟨Nat.le_add_right _ 5, ?_⟩
          have hl := hp'.len
          have hl2 := vals_toList hv
          have hl3 : (its.zip its2).length = min its.length its2.length := List.length_zip
          have hv1 := vals_toList rv
          have hv2 := vals_toList rv2
          refine ⟨?_, us.toList, c', hv, by rw [Array.toArray_toList]; exact hS⟩
          rw [sizeLine_eq, hl2, hl, hl3, ← hv1, ← hv2]
          exact Nat.le_trans hn (by decide)
        · rw [upd_ne hcc] at e
          rcases k2 c u e with z | ⟨z, z2⟩
          · exact .inl z
          · exact .inr ⟨Nat.le_trans (Nat.le_add_right _ 6) z, z2 _⟩
      have I2 : Inv X pins σ (upd H2 (s1.heap.objs.size + 5) (.lst new)) { s1 with heap := h'', toks := s1.toks } := Inv.many I1 up (fun c u e => by rw [upd_ne (ne_of_none (k1 c u e) hq)]; exact k1 c u e) hb2
      rw [show (s1.heap.objs.size + 5 : Nat) = h'.objs.size from n5.symm] at I2 hq
      exact ⟨.ref h'.objs.size, _, I2, rfl, hF _ hq⟩
section
variable {X : Cx} {c : Ct} {e a b : Expr} {p pos : Pos}
def zipLQ (Q : List D → Prop) : List D → Prop
  | [.list ds, .list es] => ds.length ≤ 100000 ∧ Q (zipD ds es)
  | _ => False
/-- list(zip(a, b)) -/
def wLZ (ws : WA) : WE := fun ρ Qd Qx => ws ρ (fun rs ρ1 => rs.length = 2 ∧ fzs rs ρ1 fun ds ρ2 => zipLQ (fun zs => Qd (.tmp zs) ρ2) ds) Qx
theorem rPairs_ok {c : Ct} {σ : L2.St} {ρ : Rn} {G0 H0 : Hp} {σ0 : L2.St} {ρ0 : Rn} {F : List V → Hp → Prop} (r0 : Rel c.K c.pa c.le G0 H0 σ0 ρ0) : ∀ {ds es : List D} {vs ws : List V} {G H : Hp} {acc : List V} {dacc : List D}, Nw c.K c.pa c.le G0 H0 σ0 ρ0 G H σ ρ → RpAll c.K G vs ds → RpAll c.K G ws es → RpAll c.K G acc dacc →
    (∀ G' H' acc', Nw c.K c.pa c.le G0 H0 σ0 ρ0 G' H' σ ρ → RpAll c.K G' acc' (dacc ++ zipD ds es) → F acc' H') → rPairs (vs.zip ws) acc H F
  | [], _, _, _, G, H, acc, dacc, n, .nil, _, ra, hF => by
    rw [List.zip_nil_left]
    exact hF G H acc n (by rw [zipD, List.append_nil]; exact ra; exact nofun)
  | _ :: _, [], _, _, G, H, acc, dacc, n, .cons _ _, .nil, ra, hF => by
    rw [List.zip_nil_right]
    exact hF G H acc n (by rw [zipD, List.append_nil]; exact ra; exact nofun)
  | d :: ds, d' :: es, _, _, G, H, acc, dacc, n, .cons h1 t1, .cons h2 t2, ra, hF => by
    intro p o ho hp
    obtain ⟨n2, r2⟩ := Nw.new_tup ho n.r hp (.cons h1 (.cons h2 .nil))
    refine rPairs_ok r0 (n.trans r0 n2) (RpAll.mono n2.a.g _ _ t1) (RpAll.mono n2.a.g _ _ t2) (RpAll.append (RpAll.mono n2.a.g _ _ ra) (.cons r2 .nil)) fun G' H' acc' n' ra' => hF G' H' acc' n' ?_
    rw [List.append_assoc] at ra'
    exact ra'
theorem d_listZ {ws : WA} {p2 pos2 : Pos} (hc : X.calm = true) (hg1 : Gl X "list") (hm1 : X.mg "list" = none) (hg : Gl X "zip") (hm : X.mg "zip" = none) (ha : DA X c [e, b] ws)
    (hs : starEach [e, b] X.env = (false, eval e X.env) :: starEach [b] X.env := by rfl) (hpl : (backTo pos2 (starEach [b] X.env)).any (·.1) = false := by rfl)
    (na : starEach [.Call (.Name "zip" p2) [e, b] [] pos2] X.env = (false, eval (.Call (.Name "zip" p2) [e, b] [] pos2) X.env) :: starEach [] X.env := by rfl) (hK : X.K = c.K := by rfl) :
    DE X c (.Call (.Name "list" p) [.Call (.Name "zip" p2) [e, b] [] pos2] [] pos) (wLZ ws) :=
  PEw (pe_listZip hc hg1 hm1 hg hm ha hs hpl na) fun σ H Q ⟨G, ρ, Qd, Qx, rl, hw, hQ, hX⟩ => ⟨G, ρ, _, Qx, rl, hw, fun vs rs ρ1 G1 H1 n1 rr ⟨q0, q⟩ => by
    obtain ⟨G2, ds, ρ2, n2, ra, q2⟩ := fzs_ok n1.r rr q
    have n3 := n1.trans rl n2
    rw [hK]
    unfold zipLQ at q2
    split at q2
    · rename_i ds es
      obtain ⟨hz, q2⟩ := q2
      cases ra with
      | cons h1 t =>
        cases t with
        | cons h2 t =>
          cases t
          cases h1 with
          | lst a1 a2 =>
            cases h2 with
            | lst b1 b2 =>
              refine ⟨_, _, _, _, rfl, SqL.of (n3.r.ext _ _ a1), SqL.of (n3.r.ext _ _ b1), ?_, ?_⟩
              · rw [RpAll.length a2]
                exact Nat.le_trans (Nat.min_le_left _ _) (Nat.le_trans hz (by decide))
              · refine rPairs_ok rl n3 a2 b2 .nil fun G' H' acc' n' ra' q hq => ?_
                obtain ⟨n4, r4, f4⟩ := Nw.new_lst n'.r hq ra'
                exact hQ _ _ ρ2 _ _ (n'.trans rl n4) r4 (f4.trans n') q2
    · exact q2.elim, hX⟩
end
end Tr

namespace Tr
open PySem L2 PyProof.Rows
/-! ### dicts of one's own: keys that are tuples of ints -/
def keysI : List D → Option (List Int)
  | [] => some []
  | .int i :: ds => (match keysI ds with
    | some ks => some (i :: ks)
    | none => none)
  | _ => none
def keyT : D → Option (List Int)
  | .tuple ds => keysI ds
  | _ => none
theorem keysI_ints : ∀ l : List Int, keysI (l.map PyData.int) = some l
  | [] => rfl
  | i :: l => by
    rw [List.map_cons, keysI, keysI_ints l]
def dAtT (r : R) (ρ : Rn) : Option (List (List Int × D)) := match r with
  | .sl i => (match ρ[i]? with
    | some (.own _ (.t kvs)) => some kvs
    | _ => none)
  | _ => none
section
variable {c : Ct}
theorem dAtT_ok {G H : Hp} {σ : L2.St} {ρ : Rn} {v : V} {r : R} {kvs : List (List Int × D)} (rl : Rel c.K c.pa c.le G H σ ρ) (rr : RR c.K c.pa G H σ ρ v r) (e : dAtT r ρ = some kvs) :
    ∃ i l a xs ws, r = .sl i ∧ ρ[i]? = some (.own l (.t kvs)) ∧ σ[i]? = some (some (V.ref a)) ∧ v = .ref a ∧ H a = some (.ext (TD a xs)) ∧ KeyR c.K G ws xs ∧ RpKV c.K G ws kvs := by
  cases r with
  | sl i =>
    have e' : (match ρ[i]? with
      | some (.own _ (.t kvs)) => some kvs
      | _ => none) = some kvs := e
    have hv : σ[i]? = some (some v) := rr
    cases e1 : ρ[i]? with
    | none => rw [e1] at e'; cases e'
    | some s =>
      rw [e1] at e'
      cases s with
      | own l o =>
        cases o with
        | l ds => cases e'
        | d kv => cases e'
        | t kv =>
          cases e'
          obtain ⟨ov, z1, a, ho, z2, z3, z4, z5, z6⟩ := rl.sl i _ e1
          rw [hv] at z1; cases z1; cases z2
          cases z5 with
          | t z5 z7 => exact ⟨i, l, a, _, _, rfl, e1, hv, rfl, z4, z5, z7⟩
      | _ => cases e'
  | _ => cases e
theorem keysI_ok {K : PySem.W.Frag} {H : Hp} : ∀ {vs : List V} {ds : List D} {ks : List Int}, RpAll K H vs ds → keysI ds = some ks → vs = ks.map V.int
  | _, _, ks, .nil, e => by
    cases e
    rfl
  | v :: vs, d :: ds, ks, .cons h t, e => by
    cases d with
    | int i =>
      rw [keysI] at e
      cases e2 : keysI ds with
      | none => rw [e2] at e; cases e
      | some ks' =>
        rw [e2] at e
        cases e
        cases h
        rw [List.map_cons, ← keysI_ok t e2]
    | _ => cases e
theorem keyT_ok {G H : Hp} {σ : L2.St} {ρ : Rn} {v : V} {r : R} {d : D} {k : List Int} (rl : Rel c.K c.pa c.le G H σ ρ) (rr : RR c.K c.pa G H σ ρ v r) (e : vw ρ r = some d) (hk : keyT d = some k) : ∃ b, v = .ref b ∧ TupK c.K G b (k.map V.int) := by
  cases d with
  | tuple ds =>
    obtain ⟨b, vs, e1, h1, h2⟩ := vw_tup rl rr e
    exact ⟨b, e1, by rw [← keysI_ok h2 hk]; exact h1⟩
  | _ => cases hk
end
theorem items_int {P : Program} {w : World} : ∀ {ks : List Int} {us : List Value}, Vals (ks.map V.int) us → ItemsAre (PySem.intKind P w) ks us
  | [], _, r => by rw [List.map_nil] at r; cases r; exact .nil
  | k :: ks, _, r => by
    rw [List.map_cons] at r
    cases r with
    | cons h t =>
      obtain ⟨u, rfl⟩ := h
      exact .cons (by show Value.isInt k (Value.int k u) = true; simp [Value.isInt]) (items_int t)
section
variable {X : Cx} {pins : List (Addr × Obj)} {σ : L2.St} {H : Hp} {s : Shared}
theorem key_is (I : Inv X pins σ H s) {b : Addr} {k : List Int} (h : TupK X.K H b (k.map V.int)) : (tupleKind (PySem.intKind X.prog X.w)).is s.heap k b := by
  obtain ⟨its, r, ⟨o, h1, h2, n, h3⟩, _⟩ := I.tuple h.sq
  exact ⟨o, its.toArray, n, h1, h2, h3, by simpa using items_int r⟩
theorem KeyR.is (I : Inv X pins σ H s) : ∀ {ws : List (List Int × V)} {xs : List (List Int × Addr × Value)}, KeyR X.K H ws xs → ∀ x ∈ xs, (tupleKind (PySem.intKind X.prog X.w)).is s.heap x.1 x.2.1
  | _, _, .nil => fun x hx => absurd hx List.not_mem_nil
  | _, _, .cons h _ t => fun x hx => by
    rcases List.mem_cons.mp hx with e | e
    · subst e
      exact key_is I h
    · exact KeyR.is I t x e
theorem dict_of (I : Inv X pins σ H s) {a : Addr} {ws : List (List Int × V)} {xs : List (List Int × Addr × Value)} (e : H a = some (.ext (TD a xs))) (r : KeyR X.K H ws xs) :
    (a == sysModules) = false ∧ xs.length ≤ sizeLine ∧ s.heap.DictOfH (tupleKind (PySem.intKind X.prog X.w)) a xs := by
  obtain ⟨⟨z1, z2, o, es, ep, h1, h2, h3, h4, h5⟩, _⟩ := (show ObjOk X.prog X.w H s.heap a (.ext (TD a xs)) from I.hok a _ e)
  exact ⟨z1, z2, o, es, ep, h1, h2, h3, h4, r.is I, h5⟩
end
theorem KeyR.at {K : PySem.W.Frag} {H : Hp} (k : List Int) : ∀ {ws : List (List Int × V)} {xs : List (List Int × Addr × Value)}, KeyR K H ws xs → RelO (valV ws k) ((atKey xs k).map (·.2))
  | _, _, .nil => True.intro
  | (k0, v0) :: ws, (_, b0, u0) :: xs, .cons h r t => by
    unfold valV atKey
    rw [List.find?_cons, List.find?_cons]
    by_cases e : k0 = k
    · rw [show decide ((k0, v0).1 = k) = true from decide_eq_true e]
      exact r
    · rw [show decide ((k0, v0).1 = k) = false from decide_eq_false e]
      exact KeyR.at k t
section
variable {X : Cx} {pins : List (Addr × Obj)} {σ : L2.St} {H : Hp} {s : Shared} {A : Around} {E : Value → Shared → Prop}
theorem d_getItemT {a b : Addr} {ws : List (List Int × V)} {xs : List (List Int × Addr × Value)} {k : List Int} {v : V} {Q : Value → Shared → Prop} (hu : A.units + 1 < cLine) (I : Inv X pins σ H s) (e : H a = some (.ext (TD a xs))) (r : KeyR X.K H ws xs) (kb : TupK X.K H b (k.map V.int)) (ez : valV ws k = some v)
    (h : ∀ w' s', Inv X pins σ H s' → RelV v w' → Q w' s') : wpAny (model X.prog X.w) A (getItem (.ref a) (.ref b)) Q E s := by
  obtain ⟨_, _, dd⟩ := dict_of I e r
  obtain ⟨w', hw, rw'⟩ := RelO.some_of (v := v) (o := (atKey xs k).map (·.2)) (by rw [← ez]; exact r.at k)
  obtain ⟨p, hp, hp2⟩ := Option.map_eq_some_iff.mp hw
  refine wpAny_getItem_heap (tupleKind_room_in1 hu) (key_is I kb) dd hp ?_
  rw [hp2]
  exact h w' _ (I.tok _) rw'
theorem isSome_at {ws : List (List Int × V)} {xs : List (List Int × Addr × Value)} (r : KeyR X.K H ws xs) (k : List Int) : (atKey xs k).isSome = (valV ws k).isSome := by
  have q := (r.at k).isSome_eq
  rw [Option.isSome_map] at q
  exact q.symm
end
section
variable {X : Cx} {c : Ct} {a b e : Expr} {pos : Pos} {wa wb : WE} {k : Nat}
def rIxDT (K : PySem.W.Frag) : R2 := fun x y H Q => ∃ a ws xs b k v, x = .ref a ∧ y = .ref b ∧ H a = some (.ext (TD a xs)) ∧ KeyR K H ws xs ∧ TupK K H b (k.map V.int) ∧ valV ws k = some v ∧ Q v H
theorem ix_dictT (hu : X.A.units + 1 < cLine) : IxR X (rIxDT X.K) := by
  intro value slice pins s σ H x y v u Q I rx ry h hs
  obtain ⟨a, ws, xs, b, k, z, rfl, rfl, e, r, kb, ez, q⟩ := h
  cases (show v = Value.ref a from rx)
  cases (show u = Value.ref b from ry)
  have hT : s.TypeIs (.ref a) "dict" := (dict_of I e r).2.2.typeIs
  unfold subscriptTail
  refine wpAny_bind ?_
  rw [getitemInPython_of_ne hT.not_modules]
  refine wpAny_bind (wpAny_specialOf hT PySem.F.slot_dict_getitem.lookup ?_)
  have fin : wpAny (model X.prog X.w) X.A (subscripted slice false (.ref a) (.ref b)) (fun r s₃ => wpAny (model X.prog X.w) X.A (letTemporaryGo value (.ref a) r >>= fun _ => pure r) (EP X pins σ Q) X.xe s₃) X.xe s := by
    rw [hs]
    exact wpAny_operating (wpAny_mono (d_getItemT hu I e r kb ez fun w' s' I' rw' => (⟨z, H, I', rw', q⟩ : EP X pins σ Q w' s')) (fun r s₃ h₃ => wpAny_bind (wpAny_letTemporaryGo (wpAny_pure h₃))) fun _ _ x => x)
  first
    | exact wpAny_pure (wpAny_bind fin)
    | exact wpAny_bind (wpAny_pure (wpAny_bind fin))
    | exact wpAny_bind fin
def rInDT (neg : Bool) (K : PySem.W.Frag) : R2 := fun y x H Q => ∃ a ws xs b k, x = .ref a ∧ y = .ref b ∧ H a = some (.ext (TD a xs)) ∧ KeyR K H ws xs ∧ TupK K H b (k.map V.int) ∧ Q (.bl (if neg then !(valV ws k).isSome else (valV ws k).isSome)) H
theorem op_inDT (hu : X.A.units + 1 < cLine) : OpR X (compareOp .In) (rInDT false X.K) := fun pins s σ H y x u v Q I ry rx ⟨a, ws, xs, b, k, ex, ey, e, r, kb, q⟩ => by
  subst ex ey
  cases (show v = Value.ref a from rx)
  cases (show u = Value.ref b from ry)
  obtain ⟨z1, _, dd⟩ := dict_of I e r
  refine wpAny_in_heap (tupleKind_room_in1 hu) (key_is I kb) z1 dd ?_
  rw [isSome_at r k]
  exact ⟨.bl (valV ws k).isSome, H, I.tok _, rfl, q⟩
theorem op_ninDT (hu : X.A.units + 1 < cLine) : OpR X (compareOp .NotIn) (rInDT true X.K) := fun pins s σ H y x u v Q I ry rx ⟨a, ws, xs, b, k, ex, ey, e, r, kb, q⟩ => by
  subst ex ey
  cases (show v = Value.ref a from rx)
  cases (show u = Value.ref b from ry)
  obtain ⟨z1, _, dd⟩ := dict_of I e r
  refine wpAny_notIn_heap (tupleKind_room_in1 hu) (key_is I kb) z1 dd ?_
  rw [isSome_at r k]
  exact ⟨.bl (!(valV ws k).isSome), H, I.tok _, rfl, q⟩
theorem KeyR.any {K : PySem.W.Frag} {H : Hp} (k : List Int) : ∀ {ws : List (List Int × V)} {xs : List (List Int × Addr × Value)}, KeyR K H ws xs → (ws.any fun kv => decide (kv.1 = k)) = (atKey xs k).isSome
  | _, _, .nil => rfl
  | (k0, v0) :: ws, (_, b0, u0) :: xs, .cons h r t => by
    rw [List.any_cons]
    unfold atKey
    rw [List.find?_cons]
    by_cases e : k0 = k
    · rw [show decide ((k0, v0).1 = k) = true from decide_eq_true e]
      rfl
    · rw [show decide ((k0, v0).1 = k) = false from decide_eq_false e]
      exact KeyR.any k t
theorem KeyR.repl {K : PySem.W.Frag} {H : Hp} {v : V} {u : Value} (k : List Int) (hv : L2.RelV v u) : ∀ {ws : List (List Int × V)} {xs : List (List Int × Addr × Value)}, KeyR K H ws xs → KeyR K H (ws.map fun kv => if kv.1 = k then (kv.1, v) else kv) (xs.map (putAt k u))
  | _, _, .nil => .nil
  | (k0, v0) :: ws, (_, b0, u0) :: xs, .cons h r t => by
    rw [List.map_cons, List.map_cons]
    unfold putAt
    by_cases e : k0 = k
    · rw [if_pos e, if_pos e]
      exact .cons h hv (KeyR.repl k hv t)
    · rw [if_neg e, if_neg e]
      exact .cons h r (KeyR.repl k hv t)
theorem KeyR.snoc {K : PySem.W.Frag} {H : Hp} {k : List Int} {b : Addr} {v : V} {u : Value} (kb : TupK K H b (k.map V.int)) (hv : L2.RelV v u) : ∀ {ws : List (List Int × V)} {xs : List (List Int × Addr × Value)}, KeyR K H ws xs → KeyR K H (ws ++ [(k, v)]) (xs ++ [(k, b, u)])
  | _, _, .nil => .cons kb hv .nil
  | _, _, .cons h r t => .cons h r (KeyR.snoc kb hv t)
theorem KeyR.put {K : PySem.W.Frag} {H : Hp} {k : List Int} {b : Addr} {v : V} {u : Value} (kb : TupK K H b (k.map V.int)) (hv : L2.RelV v u) {ws : List (List Int × V)} {xs : List (List Int × Addr × Value)} (r : KeyR K H ws xs) : KeyR K H (putK ws k v) (storedH xs k b u) := by
  unfold putK storedH
  rw [r.any k]
  split
  · exact r.repl k hv
  · exact r.snoc kb hv
theorem KeyR.len {K : PySem.W.Frag} {H : Hp} : ∀ {ws : List (List Int × V)} {xs : List (List Int × Addr × Value)}, KeyR K H ws xs → ws.length = xs.length
  | _, _, .nil => rfl
  | _, _, .cons _ _ t => congrArg (· + 1) t.len
theorem stored_len (xs : List (List Int × Addr × Value)) (k : List Int) (b : Addr) (u : Value) : (storedH xs k b u).length ≤ xs.length + 1 := by
  unfold storedH
  split
  · rw [List.length_map]; omega
  · rw [List.length_append]; exact Nat.le_refl _
theorem ok_TD {P : Program} {w : World} {H : Hp} {h : Heap} {a : Addr} {xs : List (List Int × Addr × Value)} (t : TD a xs h) : ObjOk P w H h a (.ext (TD a xs)) := by
  obtain ⟨z1, z2, o, es, ep, h1, h2⟩ := t
  exact ⟨⟨z1, z2, o, es, ep, h1, h2⟩, ⟨o, h1⟩, fun g1 g2 ⟨y1, y2, o, es, ep, y3, y4⟩ k => ⟨y1, y2, o, es, ep, k _ y3, y4⟩⟩
def rSetDT (K : PySem.W.Frag) : TSet := fun o i v H Q => ∃ a ws xs b k, o = .ref a ∧ i = .ref b ∧ H a = some (.ext (TD a xs)) ∧ KeyR K H ws xs ∧ TupK K H b (k.map V.int) ∧ xs.length < sizeLine ∧ ∀ u, L2.RelV v u → Q (upd H a (.ext (TD a (storedH xs k b u))))
theorem set_dictT (hu : X.A.units + 1 < cLine) : PSet X (rSetDT X.K) := by
  intro pins s σ H o i v ov iv u Q I ro ri rv h
  obtain ⟨a, ws, xs, b, k, eo, ei, e, r, kb, hl, q⟩ := h
  subst eo ei
  cases (show ov = Value.ref a from ro)
  cases (show iv = Value.ref b from ri)
  obtain ⟨z1, z2, dd⟩ := dict_of I e r
  refine wpAny_setItem_heap (hsz := z2) (tupleKind_room_in1 hu) (key_is I kb) dd fun h' dd' hs => ?_
  obtain ⟨ob, es, ep, hq, h2, h3, h4, _, h5⟩ := dd'
  have hsl := stored_len xs k b u
  exact ⟨_, d_write (ob := .ext (TD a (storedH xs k b u))) I (by rw [e]; exact True.intro) hs ⟨ob, hq⟩ (ok_TD ⟨z1, by omega, ob, es, ep, hq, h2, h3, h4, h5⟩), q u rv⟩
/-- a fresh one -/
def tDNewI : TE := fun _ H Q => ∀ p, H p = none → Q (.ref p) (upd H p (.ext (TD p [])))
theorem pe_dnewI : PE X (.Dict [] [] pos) tDNewI := ⟨fun pins s σ H Q I h =>
  wpAny_Dict_empty ⟨.ref s.heap.objs.size, _, I.laid (a := s.heap.objs.size) (o := .ext (TD s.heap.objs.size [])) (t' := s.toks) (fun _ _ q => Heap.get?_push_of_some _ q) (Nat.le_refl _) (ok_TD (by
    obtain ⟨_, z, _⟩ := dt_empty (P := X.prog) (w := X.w) (H := H) s.heap I.big
    exact ⟨z, Nat.zero_le _, _, #[], 0, Heap.get?_push_size _ rfl, ⟨rfl, rfl, rfl⟩, rfl, rfl, List.nodup_nil⟩)), rfl, h _ (I.hok.fresh (Nat.le_refl _))⟩⟩
end
/-- x[y], x a dict of tuples or not -/
def fSubT : F2 := fun r r' ρ Qd => match dAtT r ρ with
  | some kvs => (match vw ρ r' with
    | some y => (match keyT y with
      | some k => (match valD kvs k with
        | some d => Qd (.im d) ρ
        | none => False)
      | none => False)
    | none => False)
  | none => fSub r r' ρ Qd
def fInT (neg : Bool) : F2 := fun r r' ρ Qd => match dAtT r' ρ with
  | some kvs => (match vw ρ r with
    | some y => (match keyT y with
      | some k => Qd (.im (.bool (hid (if neg then !(valD kvs k).isSome else (valD kvs k).isSome)))) ρ
      | none => False)
    | none => False)
  | none => fIn neg r r' ρ Qd
def setAtT (o i : R) (d : D) (ρ : Rn) (Q : Rn → Prop) : Prop := match o, dAtT o ρ with
  | .sl j, some kvs => (match ρ[j]? with
    | some (.own l _) => (match vw ρ i with
      | some y => (match keyT y with
        | some k => kvs.length < 100000 ∧ Q (ρ.set j (.own l (.t (putD kvs k d))))
        | none => False)
      | none => False)
    | _ => False)
  | _, _ => setAtD o i d ρ Q
section
variable {X : Cx} {c : Ct} {a b e : Expr} {pos : Pos} {wa wb : WE} {k : Nat}
theorem s_subT (hK : X.K = c.K) : Snd2 c (fun x y H Q => ((rIxL X.K x y H Q ∨ rIxT X.K x y H Q) ∨ rIxD x y H Q) ∨ rIxDT X.K x y H Q) fSubT := fun G H σ ρ v v' r r' Qd Q rl c1 c2 rr rr' q hg => by
  unfold fSubT at q
  cases e : dAtT r ρ with
  | none =>
    rw [e] at q
    exact .inl (s_sub hK G H σ ρ v v' r r' Qd Q rl c1 c2 rr rr' q hg)
  | some kvs =>
    rw [e] at q
    obtain ⟨i, l, a, xs, ws, rfl, h1, h2, rfl, h3, h4, h5⟩ := dAtT_ok rl rr e
    cases e1 : vw ρ r' with
    | none => rw [e1] at q; exact q.elim
    | some y =>
      rw [e1] at q
      dsimp only at q
      cases e2 : keyT y with
      | none => rw [e2] at q; exact q.elim
      | some k =>
        rw [e2] at q
        dsimp only at q
        cases e3 : valD kvs k with
        | none => rw [e3] at q; exact q.elim
        | some d =>
          rw [e3] at q
          obtain ⟨z, e4, e5⟩ := h5.val.2 d e3
          obtain ⟨b, rfl, hb⟩ := keyT_ok rl rr' e1 e2
          refine .inr ⟨a, ws, xs, b, k, z, rfl, rfl, h3, ?_, ?_, e4, hg z (.im d) ρ G H (Nw.refl rl) e5 trivial q⟩
          · rw [hK]; exact h4.mono rl.ext
          · rw [hK]; exact hb.mono rl.ext
theorem d_subT (hr : Rm k X.A) (ha : DE X c a wa) (hb : DE X c b wb) (hs : PlainIx b := by exact fun _ _ => rfl) (hK : X.K = c.K := by rfl) : DE X c (.Subscript a b pos) (w2 fSubT wa wb) :=
  d_ix (IxR.or (IxR.or (IxR.or ix_list ix_tup) (ix_dict (by have := hr.u64; omega))) (ix_dictT (by have := hr.u64; omega))) (s_subT hK) ha hb hs
theorem s_inT {neg : Bool} (hK : X.K = c.K) : Snd2 c (fun x y H Q => (rInA neg X.K x y H Q ∨ rInD neg x y H Q) ∨ rInDT neg X.K x y H Q) (fInT neg) := fun G H σ ρ v v' r r' Qd Q rl c1 c2 rr rr' q hg => by
  unfold fInT at q
  cases e : dAtT r' ρ with
  | none =>
    rw [e] at q
    exact .inl (s_in hK G H σ ρ v v' r r' Qd Q rl c1 c2 rr rr' q hg)
  | some kvs =>
    rw [e] at q
    obtain ⟨i, l, a, xs, ws, rfl, h1, h2, rfl, h3, h4, h5⟩ := dAtT_ok rl rr' e
    cases e1 : vw ρ r with
    | none => rw [e1] at q; exact q.elim
    | some y =>
      rw [e1] at q
      dsimp only at q
      cases e2 : keyT y with
      | none => rw [e2] at q; exact q.elim
      | some k =>
        rw [e2] at q
        obtain ⟨b, rfl, hb⟩ := keyT_ok rl rr e1 e2
        have es : (valV ws k).isSome = (valD kvs k).isSome := by
          cases e3 : valD kvs k with
          | none => rw [h5.val.1 e3]; rfl
          | some d =>
            obtain ⟨z, e4, _⟩ := h5.val.2 d e3
            rw [e4]
            rfl
        refine .inr ⟨a, ws, xs, b, k, rfl, rfl, h3, ?_, ?_, ?_⟩
        · rw [hK]; exact h4.mono rl.ext
        · rw [hK]; exact hb.mono rl.ext
        · rw [es]
          exact got_flat hg rl (flat_hid _) q
theorem d_inT (hr : Rm k X.A) (ha : DE X c a wa) (hb : DE X c b wb) (hm : behindInMarks .In b = false := by rfl) (hK : X.K = c.K := by rfl) : DE X c (.Compare a [.In] [b] pos) (w2 (fInT false) wa wb) := d_cmp (OpR.or2 (OpR.or2 (op_inA hr.u66) (op_inD (by have := hr.u64; omega))) (op_inDT (by have := hr.u64; omega))) (s_inT hK) ha hb hm
theorem d_ninT (hr : Rm k X.A) (ha : DE X c a wa) (hb : DE X c b wb) (hm : behindInMarks .NotIn b = false := by rfl) (hK : X.K = c.K := by rfl) : DE X c (.Compare a [.NotIn] [b] pos) (w2 (fInT true) wa wb) := d_cmp (OpR.or2 (OpR.or2 (op_ninA hr.u66) (op_ninD (by have := hr.u64; omega))) (op_ninDT (by have := hr.u64; omega))) (s_inT hK) ha hb hm
theorem d_tinT (hr : Rm k X.A) (ha : DE X c a wa) (hb : DE X c b wb) (hm : behindInMarks .In b = false := by rfl) (hK : X.K = c.K := by rfl) : DT X c (.Compare a [.In] [b] pos) (wT (w2 (fInT false) wa wb)) := d_tcmp (OpR.or2 (OpR.or2 (op_inA hr.u66) (op_inD (by have := hr.u64; omega))) (op_inDT (by have := hr.u64; omega))) (s_inT hK) ha hb hm
theorem d_tninT (hr : Rm k X.A) (ha : DE X c a wa) (hb : DE X c b wb) (hm : behindInMarks .NotIn b = false := by rfl) (hK : X.K = c.K := by rfl) : DT X c (.Compare a [.NotIn] [b] pos) (wT (w2 (fInT true) wa wb)) := d_tcmp (OpR.or2 (OpR.or2 (op_ninA hr.u66) (op_ninD (by have := hr.u64; omega))) (op_ninDT (by have := hr.u64; omega))) (s_inT hK) ha hb hm
theorem setAtT_ok {G H : Hp} {σ : L2.St} {ρ : Rn} {o i : R} {ov iv v : V} {d : D} {Q : Rn → Prop} (rl : Rel c.K c.pa c.le G H σ ρ) (ho : RR c.K c.pa G H σ ρ ov o) (hi : RR c.K c.pa G H σ ρ iv i) (hd : Rp c.K G v d) (q : setAtT o i d ρ Q) :
    setAtD o i d ρ Q ∨
      ∃ p ws xs k b, ov = .ref p ∧ iv = .ref b ∧ H p = some (.ext (TD p xs)) ∧ KeyR c.K H ws xs ∧ TupK c.K H b (k.map V.int) ∧ xs.length < sizeLine ∧ ∀ u, L2.RelV v u → ∃ ρ', Nw c.K c.pa c.le G H σ ρ G (upd H p (.ext (TD p (storedH xs k b u)))) σ ρ' ∧ Q ρ' := by
  unfold setAtT at q
  cases e : dAtT o ρ with
  | none =>
    rw [e] at q
    refine .inl ?_
    cases o <;> exact q
  | some kvs =>
    obtain ⟨j, l, a, xs, ws, rfl, h1, h2, rfl, h3, h4, h5⟩ := dAtT_ok rl ho e
    rw [e] at q
    dsimp only at q
    rw [h1] at q
    dsimp only at q
    cases e1 : vw ρ i with
    | none => rw [e1] at q; exact q.elim
    | some y =>
      rw [e1] at q
      dsimp only at q
      cases e2 : keyT y with
      | none => rw [e2] at q; exact q.elim
      | some k =>
        rw [e2] at q
        obtain ⟨b, rfl, hb⟩ := keyT_ok rl hi e1 e2
        exact .inr ⟨a, ws, xs, k, b, rfl, rfl, h3, h4.mono rl.ext, hb.mono rl.ext, lt_szl (by rw [← h4.len, h5.length]; exact q.1), fun u hu => ⟨_, Nw.mutO rl h1 h2 (.t (h4.put hb hu) (h5.put k hd)), q.2⟩⟩
def wgST (wo wi : WE) : WG := fun d ρ Q Qx => wo ρ (fun o ρ1 => wi ρ1 (fun i ρ2 => setAtT (pin o) (pin i) d ρ2 Q) Qx) Qx
theorem d_gST {wo wi : WE} (hr : Rm k X.A) (ho : DE X c a wo) (hi : DE X c b wi)
    (ha : ∀ v, assign (.Subscript a b pos) X.env v = (do
      let ov ← holding [v] (eval a X.env)
      let iv ← holding [v, ov] (eval b X.env)
      standAt pos
      holding [v, ov, iv] (setItem ov iv v)
      release [v, ov, iv] []) := by intro _; rfl) (hK : X.K = c.K := by rfl) : DG X c (.Subscript a b pos) (wgST wo wi) :=
  PGw (pg_sub ho hi (PSet.or (PSet.or set_list (set_dict (by have := hr.u64; omega))) (set_dictT (by have := hr.u64; omega))) ha) fun v σ H Q ⟨G, ρ, d, Qd, Qx, rl, hd, hw, hQ, hX⟩ => by
    refine ⟨G, ρ, _, Qx, rl, hw, fun ov o ρ1 G1 H1 n1 rr fr q => ?_, hX⟩
    obtain ⟨G2, n2, _, rr2⟩ := n1.pin rl rr fr
    refine ⟨G2, ρ1, _, Qx, n2.r, q, fun iv i ρ3 G3 H3 n3 rr3 fr3 q3 => ?_, hX.trans rl n2⟩
    obtain ⟨G4, n4, _, rr4⟩ := n3.pin n2.r rr3 fr3
    have n5 := n2.trans rl n4
    rcases setAtT_ok n4.r (calm_RR (pin_calm o) n4.a.g rr2) rr4 (Rp.mono n5.a.g _ _ hd) q3 with q3 | ⟨p, ws, xs, k, b, e1, e2, e3, e4, e5, e6, f⟩
    · rcases setAtD_ok n4.r (calm_RR (pin_calm o) n4.a.g rr2) rr4 (Rp.mono n5.a.g _ _ hd) q3 with ⟨p, xs, k, j, e1, e2, e3, e4, ρ', n6, q6⟩ | ⟨p, ws, k, e1, e2, e3, e4, ρ', n6, q6⟩
      · exact .inl (.inl ⟨p, xs, k, j, e1, e2, e3, e4, hQ _ _ _ _ (n5.trans rl n6) q6⟩)
      · exact .inl (.inr ⟨p, _, e1, .inl ⟨ws, k, e3, e2, e4, rfl⟩, hQ _ _ _ _ (n5.trans rl n6) q6⟩)
    · refine .inr ⟨p, ws, xs, b, k, e1, e2, e3, by rw [hK]; exact e4, by rw [hK]; exact e5, e6, fun u hu => ?_⟩
      obtain ⟨ρ', n6, q6⟩ := f u hu
      exact hQ _ _ _ _ (n5.trans rl n6) q6
/-- a fresh dict of tuples -/
def wDnewT : WE := fun ρ Qd _ => Qd (.tm (.t [])) ρ
theorem d_dnewT : DE X c (.Dict [] [] pos) wDnewT := PEw pe_dnewI fun σ H Q ⟨G, ρ, Qd, Qx, rl, hw, hQ, hX⟩ p hp => by
  obtain ⟨n2, h2, h3⟩ := Nw.new_ob rl hp (.t .nil .nil : ObR c.K G p (.ext (TD p [])) (.t []))
  exact hQ _ (.tm (.t [])) ρ _ _ n2 h2 h3 hw
end
end Tr

namespace Tr
open PySem L2 PyProof.Rows
/-! ### f(x, {}): the def changes the fresh dict, that nobody sees again -/
theorem nw_backT {K : PySem.W.Frag} {pa : Pa} {le le' : Le} {G H H2 G1 H1 : Hp} {σ σc σ' : L2.St} {ρ ρc ρ' : Rn} {p : Addr} {ho : HO} (rl : Rel K pa le G H σ ρ) (hp : H p = none) (e2 : H2 = upd H p ho) (only : ∀ b, Own σc ρc b → b = p) (n : Nw K pa le' G H2 σc ρc G1 H1 σ' ρ') : Nw K pa le G H σ ρ G1 H1 σ ρ := by
  subst e2
  have nn : ∀ b o, H b = some o → b ≠ p := fun b o e z => by rw [z, hp] at e; cases e
  have back : ∀ b, upd H p ho b = none → H b = none := fun b z => by
    by_cases c : b = p
    · rw [c]; exact hp
    · rw [upd_ne c] at z; exact z
  have keepO : ∀ b, Own σ ρ b → G1 b = none := fun b hb => by
    obtain ⟨h1, h2⟩ := rl.owT hb
    cases e : G1 b with
    | none => rfl
    | some o =>
      rcases n.a.f b (by rw [e]; simp) with z | z | z
      · exact absurd h2 z
      · exact absurd (back b z) h1
      · rw [only b z] at h1
        exact absurd hp h1
  refine ⟨⟨n.a.g, fun b o e n1 n2 => n.a.h b o (by rw [upd_ne (nn b o e)]; exact e) (fun z => nn b o e (only b z)) n2, fun b hb => ?_, fun b e => back b (n.a.p b e)⟩, Ow.refl, ⟨n.r.ext, rl.len, fun i s e => ?_, rl.dis, n.r.pot, rl.sep⟩⟩
  · rcases n.a.f b hb with z | z | z
    · exact .inl z
    · exact .inr (.inl (back b z))
    · rw [only b z]
      exact .inr (.inl hp)
  · obtain ⟨ov, z1, z2⟩ := rl.sl i s e
    refine ⟨ov, z1, ?_⟩
    cases s with
    | no => trivial
    | im d =>
      obtain ⟨x, z3, z4⟩ := z2
      exact ⟨x, z3, Rp.mono n.a.g _ _ z4⟩
    | own l ds =>
      obtain ⟨a, vs, z3, z4, z5, z6, z7⟩ := z2
      have ho : Own σ ρ a := ⟨i, l, ds, e, by rw [z1, z3]⟩
      exact ⟨a, vs, z3, keepO a ho, n.a.h a _ (by rw [upd_ne (nn a _ z5)]; exact z5) (fun z => nn a _ z5 (only a z)) (rl.sep a ho), z6.mono n.a.g, z7⟩
    | pot => exact z2
def wCallT (n : Nat) (w : WS) (we : WE) : WE := fun ρ Qd Qx => we ρ (fun r ρ1 => fz r ρ1 fun d ρ2 => fnW n w [.im d, .own true (.t [])] (fun r' _ => match r' with
  | .im d' => Qd (.im d') ρ2
  | _ => False) fun _ => False) Qx
theorem sp_callT {c : Ct} {N : List Str} {w : WS} {G H : Hp} {σ : L2.St} {ρ : Rn} {v : V} {d : D} {p : Addr} {Qd : R → Prop} {Q : VK} (hnp : 2 ≤ N.length) (rl : Rel c.K c.pa c.le G H σ ρ) (rv : Rp c.K G v d) (hp : H p = none)
    (q : fnW N.length w [.im d, .own true (.t [])] (fun r' _ => match r' with
      | .im d' => Qd (.im d')
      | _ => False) fun _ => False)
    (hQ : ∀ v' d' G' H', Nw c.K c.pa c.le G H σ ρ G' H' σ ρ → Rp c.K G' v' d' → Qd (.im d') → Q v' H') : spT c.K c.mg N 2 w [v, .ref p] (upd H p (.ext (TD p []))) Q E0 := by
  have hh : Handed c.K c.pa G [v, V.non] [.im d, .im .none] := .im rv (.im .non .nil)
  let le' : Le := fun k => if k = 1 then some p else none
  obtain ⟨rs', nown⟩ := rel_start (N := N) rl hh hnp le'
  obtain ⟨n3, t3, _⟩ := Nw.new_ob rs' hp (.t .nil .nil : ObR c.K G p (.ext (TD p [])) (.t []))
  obtain ⟨a, ho, ea, g, h2, ra, no, np⟩ := t3
  cases ea
  obtain ⟨rl2, own2⟩ := Nw.store (i := 1) (s := .own true (.t [])) (x := some (.ref p)) n3.r ⟨p, ho, rfl, g, h2, ra, fun _ => if_pos rfl⟩ fun l' es e => ⟨p, rfl, np, fun k l2 d2 _ e2 e3 => nown p ⟨k, l2, d2, e2, e3⟩⟩
  rw [show (L2.start N [v, V.non]).set 1 (some (V.ref p)) = L2.start N [v, .ref p] from start_set (vs := [v, .ref p]) (i := 1) (v := .ref p) (x := .non) rfl] at rl2 own2
  have eρ : (([.im d, .im .none] : List Sl) ++ List.replicate (N.length - 2) Sl.no).set 1 (.own true (.t [])) = [.im d, .own true (.t [])] ++ List.replicate (N.length - 2) .no := rfl
  rw [show ([Sl.im d, Sl.im PyData.none] : List Sl).length = 2 from rfl, eρ] at rl2 own2
  have only : ∀ b, Own (L2.start N [v, .ref p]) ([.im d, .own true (.t [])] ++ List.replicate (N.length - 2) .no) b → b = p := fun b hb => by
    rcases own2 b hb with z | ⟨z, _⟩
    · exact (nown b z).elim
    · cases z; rfl
  have cont : ∀ v' r σ' ρ' G' H', Nw c.K c.pa le' G (upd H p (.ext (TD p []))) (L2.start N [v, .ref p]) ([.im d, .own true (.t [])] ++ List.replicate (N.length - 2) .no) G' H' σ' ρ' → RR c.K c.pa G' H' σ' ρ' v' r → (match r with
      | .im d' => Qd (.im d')
      | _ => False) → Q v' H' := fun v' r σ' ρ' G' H' n2 rr2 q2 => by
    cases r with
    | im d' => exact hQ v' d' G' H' (nw_backT rl hp rfl only n2) rr2 q2
    | _ => exact q2.elim
  refine ⟨rfl, c.pa, le', G, _, _, rl2, q.run, fun σ' ρ' G' H' n2 q2 => ?_, fun v' r σ' ρ' G' H' n2 rr2 fr2 q2 => ?_, fun _ _ _ _ _ z => z.elim, fun _ _ _ _ _ z => z.elim, fun _ _ _ _ _ _ _ _ _ z => z.elim⟩
  · exact cont .non (.im .none) σ' ρ' G' H' n2 .non q2
  · cases r with
    | sl k => exact q2.elim
    | im d' => exact cont v' _ σ' ρ' G' H' n2 rr2 q2
    | tm ds2 => exact q2.elim
    | dead => exact q2.elim
    | pot => exact q2.elim
section
variable {X : Cx} {c : Ct} {k n : Nat} {x : Str} {ps : List Str} {tw : WS} {p pos dp : Pos} {e : Expr} {we : WE}
theorem d_fnT (F : Fk X.prog X.w X.K X.mg X.base k x ps n tw) (hK : X.K = c.K) (hM : X.mg = c.mg) (hr : Rm k X.A) (hg : Gl X x) (ha : DE X c e we) (hdb : (x == ("__debug__" : Str)) = false := by decide)
    (he : starEach [e, .Dict [] [] dp] X.env = (false, eval e X.env) :: starEach [.Dict [] [] dp] X.env := by rfl) (he2 : starEach [(.Dict [] [] dp : Expr)] X.env = (false, eval (.Dict [] [] dp) X.env) :: starEach [] X.env := by rfl) (hpl : (backTo pos (starEach [.Dict [] [] dp] X.env)).any (·.1) = false := by rfl) (hnp : ps.length = 2 := by rfl) : DE X c (.Call (.Name x p) [e, .Dict [] [] dp] [] pos) (wCallT n tw we) := by
  obtain ⟨f, fd, N, rfl, hp, F, h1, h2, h3, h4⟩ := F
  refine PEw (pe_callG F hr hg h1 h2 h3 .nil (E := E0) pass0 (pa_cons ha (pa_cons pe_dnewI pa_nil he2) he) hdb he hpl) fun σ H Q ⟨G, ρ, Qd, Qx, rl, hw, hQ, hX⟩ => ?_
  refine ⟨G, ρ, _, Qx, rl, hw, fun v r ρ1 G1 H1 n1 rr fr q a ha => ?_, hX⟩
  obtain ⟨G2, d, ρ2, _, A2, O2, _, R2, rp, q2⟩ := fz_ok rl n1.a n1.o n1.r rr fr q
  rw [hnp] at hp
  show spT X.K X.mg N ps.length tw ([v, .ref a] ++ []) (upd H1 a (.ext (TD a []))) Q E0
  rw [hnp, List.append_nil, hK, hM]
  exact sp_callT (Qd := fun r => Qd r ρ2) hp R2 rp ha q2 fun v' d' G' H' n2 rr2 q3 => hQ v' (.im d') ρ2 G' H' (Nw.trans rl ⟨A2, O2, R2⟩ n2) rr2 trivial q3
end
end Tr

namespace Tr
open PySem PySem.Spec PyProof.Rows L2
section
variable {P : Program} {w : World} {A : Around} {E : Value → Shared → Prop} {s : Shared}
abbrev rvs (L : List (Addr × List Int)) : List Value := L.map fun q => Value.ref q.1
abbrev rvv (L : List (Addr × List Int)) : List V := L.map fun q => V.ref q.1
/-- a list of some addresses of L is a list of things of L -/
theorem told_by {L : List (Addr × List Int)} : ∀ {vs : List Value}, (∀ v ∈ vs, v ∈ rvs L) → ∃ M : List (Addr × List Int), vs = rvs M ∧ ∀ q ∈ M, q ∈ L
  | [], _ => ⟨[], rfl, fun q hq => absurd hq List.not_mem_nil⟩
  | v :: vs, h => by
    obtain ⟨q, hq, e⟩ := List.mem_map.mp (h v List.mem_cons_self)
    obtain ⟨M, eM, hM⟩ := told_by fun u hu => h u (List.mem_cons_of_mem _ hu)
    exact ⟨q :: M, by rw [eM, ← e]; rfl, fun r hr => (List.mem_cons.mp hr).elim (fun z => z ▸ hq) (hM r)⟩
theorem one_key {h : Heap} {L : List (Addr × List Int)} (T : ∀ q ∈ L, IsT P w h q.2 q.1) : ∀ q ∈ L, ∀ r ∈ L, Value.ref q.1 = Value.ref r.1 → q = r := fun q hq r hr e => by
  have e1 : q.1 = r.1 := Value.ref.inj e
  have a := T q hq
  rw [e1] at a
  exact Prod.ext e1 (a.inj (T r hr))
/-- what is told by the same addresses in some order is the same in some order -/
theorem perm_told {h : Heap} {L M : List (Addr × List Int)} (T : ∀ q ∈ L, IsT P w h q.2 q.1) (hs : ∀ q ∈ M, q ∈ L) (nL : L.Nodup) (pm : (rvs M).Perm (rvs L)) : M.Perm L := by
  have nR : (rvs L).Nodup := by
    unfold rvs
    rw [List.nodup_iff_pairwise_ne, List.pairwise_map]
    exact List.Pairwise.imp_of_mem (fun {q r} hq hr ne e => ne (one_key T q hq r hr e)) (List.nodup_iff_pairwise_ne.mp nL)
  have nM : M.Nodup := L2.nodup_of_map (pm.nodup_iff.mpr nR)
  refine (List.perm_ext_iff_of_nodup nM nL).mpr fun q => ⟨hs q, fun hq => ?_⟩
  obtain ⟨r, hr, e⟩ := List.mem_map.mp (pm.mem_iff.mpr (List.mem_map.mpr ⟨q, hq, rfl⟩ : Value.ref q.1 ∈ rvs L))
  exact one_key T r (hs r hr) q hq e ▸ hr
/-- sorted(a set of tuples): list.sort on a new list of its items, in some order -/
theorem sorted_of_set {a : Addr} {L : List (Addr × List Int)} {es : Array (Int × Value)} {ep : Nat} {t : SetTable} {Q : Value → Shared → Prop} (R : SetTR P w s.heap a L es ep t) (hh : A.handled = none)
    (body : ∀ (s1 : Shared) (M : List (Addr × List Int)), M.Perm L → (∀ b o, s.heap.get? b = some o → s1.heap.get? b = some o) → s1.gens = s.gens → s1.os = s.os → s.heap.objs.size ≤ s1.heap.objs.size →
      ∀ E' : Value → Shared → Prop, wpAny (model P w) A.in1.in1 (Builtin.«list.sort» ⟨[.ref s1.heap.objs.size], []⟩) (fun f s' => f = .done (.ret .none) ∧ Q (.ref s1.heap.objs.size) s') E' { s1 with heap := s1.heap.push (seqObj "list" (rvs M).toArray 0) }) :
    wpAny (model P w) A (call (.builtin "sorted") [.ref a]) Q E s := by
  obtain ⟨o, ho, hex, hd⟩ := R.ob
  refine call_function_entry_kw kind_sorted plain_sorted entry_sorted (args_sorted1 _) ?_
  unfold Builtin.«sorted»
  refine wpAny_bind (m := checkCount "sorted" 1 1 _) (wpAny_pure ?_)
  have h64 := R.few
  have hz0 := R.size
  refine wpAny_bind (collect_set (A := A.in1) hh ⟨o, ho, hex.1, hd⟩ R.fits (show es.size < scanBound by unfold scanBound; omega) R.tab.ris R.led fun s1 vs k1 hz g1 o1 pm => ?_)
  have er : es.toList.map (·.2) = rvs L := by
    rw [R.rows]
    exact (List.map_map ..).trans rfl
  rw [er] at pm
  obtain ⟨M, rfl, hM⟩ := told_by fun v hv => pm.mem_iff.mp hv
  have pL : M.Perm L := perm_told R.tup hM (L2.nodup_of_map R.nd) pm
  have hlen : (rvs M).length ≤ sizeLine := by
    rw [List.length_map, pL.length_eq, sizeLine_eq]
    omega
  refine wpAny_bind (wpAny_newList ?_ hlen)
  have hS : (s1.heap.push (seqObj "list" (rvs M).toArray 0)).get? s1.heap.objs.size = some (seqObj "list" (rvs M).toArray 0) := Heap.get?_push_size _ rfl
  refine wpAny_bind (wpAny_holding (wpAny_call_entry_kw slot_list_sort ⟨_, hS, rfl⟩ entry_list_sort ?sorts (args_list_sort _)))
  case sorts =>
    refine wpAny_mono (body s1 M pL k1 g1 o1 hz _) (fun f s' hf => ?_) fun _ _ e => e
    obtain ⟨rfl, hq⟩ := hf
    exact ⟨_, rfl, wpAny_pure ⟨_, rfl, hq⟩⟩
end
section
variable {X : Cx}
theorem dp_ints {K : PySem.W.Frag} {H : Hp} : ∀ k : List Int, DpAll K H (k.map V.int) (k.map PyData.int)
  | [] => .nil
  | i :: k => .cons (.int i) (dp_ints k)
theorem dp_keys {K : PySem.W.Frag} {H : Hp} : ∀ {L : List (Addr × List Int)}, (∀ p ∈ L, SqT K H p.1 (p.2.map V.int)) → DpAll K H (rvv L) (L.map fun p => PyData.tuple (p.2.map PyData.int))
  | [], _ => .nil
  | p :: L, h => .cons (.tup (h p List.mem_cons_self) (dp_ints p.2)) (dp_keys fun q hq => h q (List.mem_cons_of_mem _ hq))
abbrev kyD (L : List (Addr × List Int)) : List D := L.map fun p => PyData.tuple (p.2.map PyData.int)
theorem vals_rvv : ∀ (L : List (Addr × List Int)), Vals (rvv L) (rvs L)
  | [] => .nil
  | _ :: L => .cons rfl (vals_rvv L)
theorem alike_keys (L : List (Addr × List Int)) : PySem.W.AllAlike (kyD L) := fun d hd e he => by
  obtain ⟨p, _, rfl⟩ := List.mem_map.mp hd
  obtain ⟨q, _, rfl⟩ := List.mem_map.mp he
  rw [PySem.W.alike]
  exact PySem.W.alike_ints p.2 q.2
theorem depth_key (k : List Int) : PyData.depth (.tuple (k.map PyData.int)) ≤ 1 := by
  rw [PyData.depth]
  have : ∀ k : List Int, PyData.depthAll (k.map PyData.int) = 0 := fun k => by
    induction k with
    | nil => rfl
    | cons i k ih =>
      show max (PyData.depth (.int i)) (PyData.depthAll (k.map PyData.int)) = 0
      rw [ih]
      rfl
  rw [this]
  exact Nat.le_refl _
theorem sortable_keys {L : List (Addr × List Int)} (h : ∀ p ∈ L, 1 ≤ p.2.length) : PySem.W.Sortable (kyD L) := .inl fun d hd => by
  obtain ⟨p, hp, rfl⟩ := List.mem_map.mp hd
  have := h p hp
  cases e : p.2 with
  | nil => rw [e] at this; exact absurd this (by decide)
  | cons x r => exact ⟨.int x, r.map .int, rfl⟩
/-- sorted(set(x)) -/
def tSortSet (K : PySem.W.Frag) (ta : TE) : TE := fun σ H Q => ta σ H fun x H1 => ∃ (l : Addr) (ks : List (Addr × List Int)), x = V.ref l ∧ SqL K H1 l (rvv ks) ∧ (∀ p ∈ ks, SqT K H1 p.1 (p.2.map V.int)) ∧ ks.length < 64 ∧
  ∀ M : List (Addr × List Int), (∀ p ∈ M, p ∈ ks) → (∀ p ∈ ks, p.2 ∈ M.map (·.2)) → (M.map (·.2)).Nodup →
    ((∀ p ∈ M, 1 ≤ p.2.length) ∨ M.length < 2) ∧ ∀ (q : Addr) (ys : List V), (∀ R : V → D → Prop, Paired R (rvv M) (kyD M) → Paired R ys (sortD (kyD M))) → H1 q = none → Q (.ref q) (upd H1 q (.lst ys))
theorem sort_keys {pins : List (Addr × Obj)} {σ : L2.St} {H1 : Hp} {Q : VK} {s0 s2 : Shared} {M : List (Addr × List Int)} {E' : Value → Shared → Prop} (hu : X.A.units + 66 < cLine) (I2 : Inv X pins σ H1 s0) (k2 : ∀ b o, s0.heap.get? b = some o → s2.heap.get? b = some o) (g2 : s2.gens = s0.gens) (o2 : s2.os = s0.os) (hz2 : s0.heap.objs.size ≤ s2.heap.objs.size)
    (hMl : M.length ≤ sizeLine) (sqM : ∀ p ∈ M, SqT X.K H1 p.1 (p.2.map V.int)) (few : (∀ p ∈ M, 1 ≤ p.2.length) ∨ M.length < 2)
    (fin : ∀ (q : Addr) (ys : List V), (∀ R : V → D → Prop, Paired R (rvv M) (kyD M) → Paired R ys (sortD (kyD M))) → H1 q = none → Q (.ref q) (upd H1 q (.lst ys))) :
    wpAny (model X.prog X.w) X.A.in1.in1 (Builtin.«list.sort» ⟨[.ref s2.heap.objs.size], []⟩) (fun f s' => f = .done (.ret .none) ∧ EP X pins σ Q (.ref s2.heap.objs.size) s') E' { s2 with heap := s2.heap.push (seqObj "list" (rvs M).toArray 0) } := by
  have hL : (rvs M).length ≤ sizeLine := by rw [List.length_map]; exact hMl
  have hS : (s2.heap.push (seqObj "list" (rvs M).toArray 0)).get? s2.heap.objs.size = some (seqObj "list" (rvs M).toArray 0) := Heap.get?_push_size _ rfl
  have hn : H1 s2.heap.objs.size = none := I2.hok.fresh hz2
  have done : ∀ (ys : List V) (out : List Value), ys.length ≤ sizeLine → Vals ys out → (∀ R : V → D → Prop, Paired R (rvv M) (kyD M) → Paired R ys (sortD (kyD M))) →
      EP X pins σ Q (.ref s2.heap.objs.size) { s2 with heap := sortedHeap (s2.heap.push (seqObj "list" (rvs M).toArray 0)) s2.heap.objs.size (rvs M) out.toArray } := fun ys out hyl hv hP => by
    obtain ⟨c, hc2⟩ := sortedHeap_at (out := out.toArray) hS
    have keep : ∀ b u, s0.heap.get? b = some u → (sortedHeap (s2.heap.push (seqObj "list" (rvs M).toArray 0)) s2.heap.objs.size (rvs M) out.toArray).get? b = some u := fun b u e => by
      have e4 := k2 b u e
      rw [sortedHeap_old (Nat.ne_of_lt (Heap.lt_size e4)) (Heap.lt_size (Heap.get?_push_of_some _ e4))]
      exact Heap.get?_push_of_some _ e4
    have J : Inv X pins σ (upd H1 s2.heap.objs.size (.lst ys)) { s0 with heap := sortedHeap (s2.heap.push (seqObj "list" (rvs M).toArray 0)) s2.heap.objs.size (rvs M) out.toArray, gens := s2.gens, drawn := s2.drawn, toks := s2.toks } :=
      I2.call (ch := []) (Un.laid keep hz2 hn) (I2.hok.laid keep hz2 ⟨hyl, out, c, hv, hc2⟩) (by rw [g2]; exact I2.bare) (fun _ z => nomatch z)
    have e : ({ s2 with heap := sortedHeap (s2.heap.push (seqObj "list" (rvs M).toArray 0)) s2.heap.objs.size (rvs M) out.toArray } : Shared) = { s0 with heap := sortedHeap (s2.heap.push (seqObj "list" (rvs M).toArray 0)) s2.heap.objs.size (rvs M) out.toArray, gens := s2.gens, drawn := s2.drawn, toks := s2.toks } := by
      cases s2
      cases s0
      cases o2
      rfl
    rw [e]
    exact ⟨.ref s2.heap.objs.size, _, J, rfl, fin _ ys hP hn⟩
  rcases few with h1 | h2
  · obtain ⟨as, rd⟩ := Dp.readsAll I2 (kyD M) (rvv M) (rvs M) (dp_keys sqM) (vals_rvv M)
    obtain ⟨e1, e2, e3⟩ := each_zip (vals_rvv M) rd
    have keep : ∀ b u, s0.heap.get? b = some u → (PySem.W.sortingHeap (s2.heap.push (seqObj "list" (rvs M).toArray 0)) s2.heap.objs.size (rvs M)).get? b = some u := fun b u e => by
      have e4 := k2 b u e
      exact PySem.W.sortingHeap_old (Nat.ne_of_lt (Heap.lt_size e4)) (Heap.get?_push_of_some _ e4)
    have er' : PySem.W.EachIs (fun (v : Value) (b : V × D) => ∃ as, Reads (PySem.W.sortingHeap (s2.heap.push (seqObj "list" (rvs M).toArray 0)) s2.heap.objs.size (rvs M)) v b.2 as) (rvs M) ((rvv M).zip (kyD M)) := e2.mono fun _ _ ⟨as, r⟩ => ⟨as, Reads.keeps keep r⟩
    refine PySem.W.list_sort_vals (s := { s2 with heap := s2.heap.push (seqObj "list" (rvs M).toArray 0) }) hS (PySem.W.SortsAt.data (s := { s2 with heap := PySem.W.sortingHeap (s2.heap.push (seqObj "list" (rvs M).toArray 0)) s2.heap.objs.size (rvs M) }) (PySem.W.each_map (R := fun v d => ∃ as, Reads (PySem.W.sortingHeap (s2.heap.push (seqObj "list" (rvs M).toArray 0)) s2.heap.objs.size (rvs M)) v d as) (fun b : V × D => b.2) er') (by rw [e3]; exact alike_keys M) (by rw [e3]; exact sortable_keys h1) (PySem.W.bound_map (enc := fun b : V × D => b.2) fun b hb' => ?_)) hL ⟨rfl, ?_⟩
    · have hb2 : b.2 ∈ kyD M := by
        have : b.2 ∈ ((rvv M).zip (kyD M)).map (·.2) := List.mem_map.mpr ⟨b, hb', rfl⟩
        rw [e3] at this
        exact this
      obtain ⟨p, _, ep⟩ := List.mem_map.mp hb2
      have := depth_key p.2
      rw [ep] at this
      show X.A.units + 1 + 1 + b.2.depth < cLine
      omega
    · have h2 := PySem.W.sortVals_data (R := fun (v : Value) (b : V × D) => RelV b.1 v) false e1 er' (by rw [e3]; exact alike_keys M)
      generalize PySem.W.sortVals _ false (rvs M) (rvs M) = out at h2 ⊢
      have perm := List.mergeSort_perm ((rvv M).zip (kyD M)) (PySem.W.dataLe false (·.2))
      have em : (((rvv M).zip (kyD M)).mergeSort (PySem.W.dataLe false (·.2))).map (·.2) = sortD (kyD M) := by
        unfold sortD
        have h := List.map_mergeSort (r := fun a b : V × D => PySem.W.dataLe false id a.2 b.2) (s := PySem.W.dataLe false id) (f := fun b : V × D => b.2) (l := (rvv M).zip (kyD M)) (fun a _ b _ => rfl)
        rw [e3] at h
        exact h
      refine done (((((rvv M).zip (kyD M)).mergeSort (PySem.W.dataLe false (·.2)))).map (·.1)) out ?_ (each_vals h2) fun R hP => ?_
      · rw [List.length_map, perm.length_eq, List.length_zip, List.length_map, List.length_map, Nat.min_self]
        exact hMl
      · rw [← em]
        exact zip_paired fun b hb => paired_zip hP b (perm.mem_iff.mp hb)
  · refine Srt.list_sort_any (s := { s2 with heap := s2.heap.push (seqObj "list" (rvs M).toArray 0) }) hS hL (fun h2' => absurd h2' (by rw [List.length_map]; omega)) fun out hp => ?_
    obtain rfl : out = rvs M := perm_short hp (by rw [List.length_map]; exact h2)
    refine ⟨rfl, done (rvv M) (rvs M) (by rw [List.length_map]; exact hMl) (vals_rvv M) fun R hP => ?_⟩
    rw [sortD_short (by rw [List.length_map]; exact h2)]
    exact hP
theorem pe_sortSet {a : Expr} {ta : TE} {p p2 q pos : Pos} (hc : X.calm = true) (hu : X.A.units + 66 < cLine) (hg : Gl X "sorted") (hm : X.mg "sorted" = none) (hg2 : Gl X "set") (hm2 : X.mg "set" = none) (ha : PE X a ta)
    (na : starEach [a] X.env = (false, eval a X.env) :: starEach [] X.env := by rfl) : PE X (.Call (.Name "sorted" p) [.Call (.Name "set" p2) [a] [] q] [] pos) (tSortSet X.K ta) := by
  refine ⟨fun pins s σ H Q I h => Call_ (ld_blt I hg hm boot_sorted (callWith_builtin1 (args_cons ?_ rfl) rfl rfl))⟩
  refine Call_ (ld_blt I hg2 hm2 boot_set (callWith_type1 (args_cons (thn (ha.run pins s σ H _ I h) fun v s1 ⟨x, H1, I1, r1, q1⟩ => args_nil ?_) na) na rfl))
  obtain ⟨l, ks, rfl, hq, hk, h64, q1⟩ := q1
  cases r1
  obtain ⟨its, rv, pl, hz⟩ := I1.list hq
  refine call_set_tups (P := X.prog) (w := X.w) ks (I1.ok.hd hc) pl.isList (by simpa using refs_of_vals rv) (fun p hp => I1.isT (hk p hp)) h64 (by omega) fun h' tk L es ep t R g k => args_nil ?_
  have I2 : Inv X pins σ H1 { s1 with heap := h', toks := tk } := I1.kept k
  refine sorted_of_set (s := { s1 with heap := h', toks := tk }) R (I2.ok.hd hc) fun s2 M pM k2 g2 o2 hz2 E' => ?_
  have hM : ∀ p ∈ M, p ∈ ks := fun p hp => List.mem_of_mem_take (g.sub p (pM.mem_iff.mp hp))
  obtain ⟨few, fin⟩ := q1 M hM (fun p hp => (pM.map (·.2)).mem_iff.mpr (g.all p (by rw [List.take_length]; exact hp))) ((pM.map (·.2)).nodup_iff.mpr R.nd)
  have sqM : ∀ p ∈ M, SqT X.K H1 p.1 (p.2.map V.int) := fun p hp => hk p (hM p hp)
  exact sort_keys hu I2 k2 g2 o2 hz2 (by rw [pM.length_eq, sizeLine_eq]; have := R.few; omega) sqM few fin
end
end Tr
namespace Tr
open PySem L2
abbrev tuI (k : List Int) : D := .tuple (k.map PyData.int)
def keysT : List D → Option (List (List Int))
  | [] => some []
  | d :: ds => match keyT d, keysT ds with
    | some x, some xs => some (x :: xs)
    | _, _ => none
theorem keyT_tup (k : List Int) : keyT (tuI k) = some k := by
  show keysI (k.map PyData.int) = some k
  exact keysI_ints k
theorem keysT_tups : ∀ L : List (List Int), keysT (L.map tuI) = some L
  | [] => rfl
  | k :: L => by
    rw [List.map_cons, keysT, keyT_tup, keysT_tups L]
theorem keysI_inv : ∀ {ds : List D} {k : List Int}, keysI ds = some k → ds = k.map PyData.int
  | [], k, h => by cases h; rfl
  | d :: ds, k, h => by
    cases d with
    | int i =>
      cases e : keysI ds with
      | none =>
        rw [keysI, e] at h
        cases h
      | some r =>
        rw [keysI, e] at h
        cases h
        rw [keysI_inv e]
        rfl
    | _ => cases h
theorem keyT_inv {d : D} {k : List Int} (h : keyT d = some k) : d = tuI k := by
  cases d with
  | tuple ds => rw [keysI_inv (show keysI ds = some k from h)]
  | _ => cases h
theorem keysT_inv : ∀ {ds : List D} {L : List (List Int)}, keysT ds = some L → ds = L.map tuI
  | [], L, h => by cases h; rfl
  | d :: ds, L, h => by
    unfold keysT at h
    split at h
    · rename_i x xs e1 e2
      cases h
      rw [keyT_inv e1, keysT_inv e2]
      rfl
    · cases h
/-- each once -/
def uniqT : List (List Int) → List (List Int)
  | [] => []
  | x :: xs => if x ∈ xs then uniqT xs else x :: uniqT xs
theorem uniqT_mem {k : List Int} : ∀ {L : List (List Int)}, k ∈ uniqT L ↔ k ∈ L
  | [] => Iff.rfl
  | x :: xs => by
    rw [uniqT]
    split
    · rename_i h
      rw [uniqT_mem, List.mem_cons]
      exact ⟨.inr, fun z => z.elim (fun e => e ▸ h) id⟩
    · rw [List.mem_cons, List.mem_cons, uniqT_mem]
theorem uniqT_nodup : ∀ L : List (List Int), (uniqT L).Nodup
  | [] => List.nodup_nil
  | x :: xs => by
    rw [uniqT]
    split
    · exact uniqT_nodup xs
    · rename_i h
      exact List.nodup_cons.mpr ⟨fun z => h (uniqT_mem.mp z), uniqT_nodup xs⟩
theorem uniqT_len : ∀ L : List (List Int), (uniqT L).length ≤ L.length
  | [] => Nat.le_refl _
  | x :: xs => by
    rw [uniqT]
    have := uniqT_len xs
    split
    · exact Nat.le_succ_of_le this
    · exact Nat.succ_le_succ this
theorem uniqT_id : ∀ {L : List (List Int)}, L.Nodup → uniqT L = L
  | [], _ => rfl
  | x :: xs, h => by
    rw [uniqT, if_neg (List.nodup_cons.mp h).1, uniqT_id (List.nodup_cons.mp h).2]
theorem ltS_tup (a b : List Int) : PySem.W.dataLt (tuI a) (tuI b) = decide (a < b) := by
  show PySem.W.dataLt (.tuple (a.map .int)) (.tuple (b.map .int)) = _
  rw [PySem.W.dataLt_tuple]
  exact PySem.W.dataLt_ints a b
theorem leS_tup (a b : List Int) : PySem.W.dataLe false id (tuI a) (tuI b) = decide (a ≤ b) := by
  show (!PySem.W.dataLt (tuI b) (tuI a)) = _
  rw [ltS_tup]
  by_cases h : a ≤ b
  · rw [decide_eq_true h, decide_eq_false (List.not_lt.mpr h)]
    rfl
  · rw [decide_eq_false h, decide_eq_true (Classical.not_not.mp fun z => h (List.not_lt.mp z))]
    rfl
theorem sortS_map (F : List (List Int)) : ∃ G : List (List Int), sortD (F.map tuI) = G.map tuI ∧ G.Perm F ∧ G.Pairwise (· ≤ ·) := by
  refine ⟨F.mergeSort fun a b => decide (a ≤ b), ?_, List.mergeSort_perm _ _, ?_⟩
  · unfold sortD
    exact (List.map_mergeSort (f := tuI) (l := F) fun a _ b _ => (leS_tup a b).symm).symm
  · have h := List.pairwise_mergeSort (le := fun a b : List Int => decide (a ≤ b)) (fun a b c h1 h2 => decide_eq_true (List.le_trans (of_decide_eq_true h1) (of_decide_eq_true h2))) (fun a b => by
      rw [Bool.or_eq_true, decide_eq_true_eq, decide_eq_true_eq]
      exact List.le_total a b) F
    exact h.imp fun h => of_decide_eq_true h
theorem sortS_perm {F G : List (List Int)} (h : F.Perm G) : sortD (F.map tuI) = sortD (G.map tuI) := by
  obtain ⟨F', e1, p1, o1⟩ := sortS_map F
  obtain ⟨G', e2, p2, o2⟩ := sortS_map G
  rw [e1, e2, List.Perm.eq_of_pairwise (le := (· ≤ ·)) (fun a b _ _ h1 h2 => List.le_antisymm h1 h2) o1 o2 ((p1.trans h).trans p2.symm)]
section
variable {X : Cx} {c : Ct}
theorem keys_told {K : PySem.W.Frag} {G : Hp} : ∀ {L : List (List Int)} {vs : List V}, RpAll K G vs (L.map tuI) → ∃ ks : List (Addr × List Int), vs = rvv ks ∧ ks.map (·.2) = L ∧ ∀ p ∈ ks, TupK K G p.1 (p.2.map V.int)
  | [], _, h => by cases h; exact ⟨[], rfl, rfl, fun p hp => absurd hp List.not_mem_nil⟩
  | k :: L, _, h => by
    cases h with
    | cons h1 h2 =>
      obtain ⟨ks, e1, e2, h3⟩ := keys_told h2
      cases h1 with
      | tup t r =>
        rename_i a xs
        rw [RpAll.ints_inv r] at t
        exact ⟨(a, k) :: ks, by rw [e1]; rfl, by rw [List.map_cons, e2], fun p hp => (List.mem_cons.mp hp).elim (fun e => e ▸ t) (h3 p)⟩
theorem rp_keys {K : PySem.W.Frag} {G : Hp} : ∀ {M : List (Addr × List Int)}, (∀ p ∈ M, TupK K G p.1 (p.2.map V.int)) → RpAll K G (rvv M) (kyD M)
  | [], _ => .nil
  | p :: M, h => .cons (.tup (h p List.mem_cons_self) (RpAll.ints p.2)) (rp_keys fun q hq => h q (List.mem_cons_of_mem _ hq))
def rSortSet (K : PySem.W.Frag) : V → Hp → VK → Prop := fun x H1 Q => ∃ (l : Addr) (ks : List (Addr × List Int)), x = V.ref l ∧ SqL K H1 l (rvv ks) ∧ (∀ p ∈ ks, SqT K H1 p.1 (p.2.map V.int)) ∧ ks.length < 64 ∧
  ∀ M : List (Addr × List Int), (∀ p ∈ M, p ∈ ks) → (∀ p ∈ ks, p.2 ∈ M.map (·.2)) → (M.map (·.2)).Nodup →
    ((∀ p ∈ M, 1 ≤ p.2.length) ∨ M.length < 2) ∧ ∀ (q : Addr) (ys : List V), (∀ R : V → D → Prop, Paired R (rvv M) (kyD M) → Paired R ys (sortD (kyD M))) → H1 q = none → Q (.ref q) (upd H1 q (.lst ys))
def gSetS : D → (R → Prop) → Prop := fun d q => match d with
  | .list ds => (match keysT ds with
    | some ks => (ks.length < 64 ∧ ((∀ k ∈ ks, 1 ≤ k.length) ∨ (uniqT ks).length < 2)) ∧ q (.tmp (sortD ((uniqT ks).map tuI)))
    | none => False)
  | _ => False
theorem ok_sortSet : Ok1 c (rSortSet c.K) gSetS := fun G H σ ρ v r d Qd Q rl rr h1 q hg => by
  cases d with
  | list ds =>
    obtain ⟨a1, us, rfl, t1, p1⟩ := vw_lst rl rr h1
    unfold gSetS at q
    dsimp only at q
    cases e : keysT ds with
    | none => rw [e] at q; exact q.elim
    | some L =>
      rw [e] at q
      obtain ⟨⟨h64, few⟩, q⟩ := q
      rw [keysT_inv e] at p1
      obtain ⟨ks, rfl, rfl, ht⟩ := keys_told p1
      refine ⟨a1, ks, rfl, SqL.of t1, fun p hp => ((ht p hp).mono rl.ext).sq, by rw [List.length_map] at h64; exact h64, fun M m1 m2 nd => ?_⟩
      have pm : (M.map (·.2)).Perm (uniqT (ks.map (·.2))) := (List.perm_ext_iff_of_nodup nd (uniqT_nodup _)).mpr fun k => by
        rw [uniqT_mem]
        constructor
        · intro hk
          obtain ⟨p, hp, e⟩ := List.mem_map.mp hk
          exact List.mem_map.mpr ⟨p, m1 p hp, e⟩
        · intro hk
          obtain ⟨p, hp, e⟩ := List.mem_map.mp hk
          exact e ▸ m2 p hp
      have eM : kyD M = (M.map (·.2)).map tuI := by
        rw [List.map_map]
        rfl
      refine ⟨few.elim (fun h => .inl fun p hp => h _ (List.mem_map.mpr ⟨p, m1 p hp, rfl⟩)) (fun h => .inr (by have := pm.length_eq; rw [List.length_map] at this; omega)), fun q' ys hP => ?_⟩
      have rp := rp_keys (K := c.K) (G := G) (M := M) fun p hp => ht p (m1 p hp)
      have e2 : sortD (kyD M) = sortD ((uniqT (ks.map (·.2))).map tuI) := by
        rw [eM]
        exact sortS_perm pm
      rw [e2] at hP
      exact got_lst hg rl (paired_rp (hP _ (rp_paired rp))) q q'
  | _ => exact q.elim
variable {e : Expr} {p p2 pos pos2 : Pos} {we : WE} {k : Nat}
/-- sorted(set(x)), x a list of tuples of ints -/
theorem d_sortSet (hr : Rm k X.A) (hc : X.calm = true) (hg : Gl X "sorted") (hm : X.mg "sorted" = none) (hg2 : Gl X "set") (hm2 : X.mg "set" = none) (ha : DE X c e we) (hK : X.K = c.K := by rfl)
    (na : starEach [e] X.env = (false, eval e X.env) :: starEach [] X.env := by rfl) : DE X c (.Call (.Name "sorted" p) [.Call (.Name "set" p2) [e] [] pos2] [] pos) (w1 (v1 gSetS) we) :=
  PEw (pe_sortSet hc hr.u66 hg hm hg2 hm2 ha na) fun σ H Q h => le1 (op := rSortSet X.K) (snd1 (by rw [hK]; exact ok_sortSet)) h
end
end Tr

namespace Tr
open PySem PySem.Spec PyProof.Rows L2
section
variable {P : Program} {w : World} {A : Around} {E : Value → Shared → Prop} {s : Shared}
/-- sorted(a dict): list.sort on a new list of its keys -/
theorem sorted_of_dict {d : Addr} {o : Obj} {es : Array DictEntry} {ep : Nat} {M : List (Addr × List Int)} {Q : Value → Shared → Prop} (lo : (d == sysModules) = false) (ho : s.heap.get? d = some o) (hx : o.ExactDict) (hd : o.data = .dict es ep) (hM : es.toList.map (fun e => e.key) = rvs M) (hn : M.length ≤ sizeLine) (hh : A.handled = none)
    (body : ∀ (h' : Heap) (tk : Nat), (∀ b o, s.heap.get? b = some o → h'.get? b = some o) → ∀ E' : Value → Shared → Prop, wpAny (model P w) A.in1.in1 (Builtin.«list.sort» ⟨[.ref h'.objs.size], []⟩) (fun f s' => f = .done (.ret .none) ∧ Q (.ref h'.objs.size) s') E' { ({ s with heap := h', toks := tk } : Shared) with heap := h'.push (seqObj "list" (rvs M).toArray 0) }) :
    wpAny (model P w) A (call (.builtin "sorted") [.ref d]) Q E s := by
  refine call_function_entry_kw kind_sorted plain_sorted entry_sorted (args_sorted1 _) ?_
  unfold Builtin.«sorted»
  refine wpAny_bind (m := checkCount "sorted" 1 1 _) (wpAny_pure ?_)
  have hlen : es.size = M.length := by
    have := congrArg List.length hM
    rw [List.length_map, List.length_map] at this
    simpa using this
  refine wpAny_bind (PySem.W.kdu_collect (A := A.in1) (kdl_raw lo hx hd) hh ho (by rw [hlen]; exact hn) fun h' tk acc k hacc => ?_)
  have ea : acc.toList = rvs M := by
    rw [← hM]
    refine List.ext_getElem? fun i => ?_
    rw [List.getElem?_map]
    cases e : acc.toList[i]? with
    | none =>
      have h1 : acc.size ≤ i := by simpa using List.getElem?_eq_none_iff.mp e
      rw [List.getElem?_eq_none (by have := hacc.1; simp; omega)]
      rfl
    | some v =>
      obtain ⟨en, h1, h2⟩ := hacc.2 i v (by rw [← e, Array.getElem?_toList])
      rw [Array.getElem?_toList, h1, h2]
      rfl
  rw [ea]
  have hlen2 : (rvs M).length ≤ sizeLine := by rw [List.length_map]; exact hn
  refine wpAny_bind (wpAny_newList ?_ hlen2)
  have hS : (h'.push (seqObj "list" (rvs M).toArray 0)).get? h'.objs.size = some (seqObj "list" (rvs M).toArray 0) := Heap.get?_push_size _ rfl
  refine wpAny_bind (wpAny_holding (wpAny_call_entry_kw slot_list_sort ⟨_, hS, rfl⟩ entry_list_sort ?sorts (args_list_sort _)))
  case sorts =>
    refine wpAny_mono (body h' tk k _) (fun f s' hf => ?_) fun _ _ e => e
    obtain ⟨rfl, hq⟩ := hf
    exact ⟨_, rfl, wpAny_pure ⟨_, rfl, hq⟩⟩
end
section
variable {X : Cx} {c : Ct} {e : Expr} {p pos : Pos} {ws : WA} {k : Nat}
abbrev keysM (xs : List (List Int × Addr × Value)) : List (Addr × List Int) := xs.map fun x => (x.2.1, x.1)
theorem keyR_tup {K : PySem.W.Frag} {H : Hp} : ∀ {ws : List (List Int × V)} {xs : List (List Int × Addr × Value)}, KeyR K H ws xs → ∀ p ∈ keysM xs, TupK K H p.1 (p.2.map V.int)
  | _, _, .nil => fun p hp => absurd hp List.not_mem_nil
  | _, _, .cons h r t => fun p hp => by
    rcases List.mem_cons.mp hp with e | e
    · rw [e]; exact h
    · exact keyR_tup t p e
theorem keyR_fst {K : PySem.W.Frag} {H : Hp} : ∀ {ws : List (List Int × V)} {xs : List (List Int × Addr × Value)} {kvs : List (List Int × D)}, KeyR K H ws xs → RpKV K H ws kvs → (keysM xs).map (·.2) = kvs.map (·.1)
  | _, _, _, .nil, .nil => rfl
  | _, _, _, .cons h r t, .cons h2 t2 => by
    show _ :: (keysM _).map (·.2) = _ :: _
    rw [keyR_fst t t2]
def rSortDT (K : PySem.W.Frag) : List V → Hp → VK → Prop := fun vs H Q => ∃ (a : Addr) (ws : List (List Int × V)) (xs : List (List Int × Addr × Value)), vs = [V.ref a] ∧ H a = some (.ext (TD a xs)) ∧ KeyR K H ws xs ∧ ((∀ p ∈ keysM xs, 1 ≤ p.2.length) ∨ (keysM xs).length < 2) ∧
  ∀ (q : Addr) (ys : List V), (∀ R : V → D → Prop, Paired R (rvv (keysM xs)) (kyD (keysM xs)) → Paired R ys (sortD (kyD (keysM xs)))) → H q = none → Q (.ref q) (upd H q (.lst ys))
theorem cr_sortDT (hc : X.calm = true) (hu : X.A.units + 66 < cLine) : CallR X (.builtin "sorted") (rSortDT X.K) := by
  intro pins s σ H vs us Q I r h
  obtain ⟨a, ws, xs, rfl, ha, kr, few, q⟩ := h
  obtain ⟨⟨z1, z2, o, es, ep, h1, h2, h3, h4, h5⟩, _⟩ := (show ObjOk X.prog X.w H s.heap a (.ext (TD a xs)) from I.hok a _ ha)
  rw [Vals.ref1 r]
  have hl : (keysM xs).length ≤ sizeLine := by rw [List.length_map]; exact z2
  refine sorted_of_dict (M := keysM xs) z1 h1 h2 h3 (by
    rw [h4, List.map_map]
    show _ = List.map _ (List.map _ xs)
    rw [List.map_map]
    rfl) hl (I.ok.hd hc) fun h' tk k E' => ?_
  have I2 : Inv X pins σ H { s with heap := h', toks := tk } := I.kept k
  exact sort_keys (s0 := { s with heap := h', toks := tk }) (s2 := { s with heap := h', toks := tk }) hu I2 (fun _ _ e => e) rfl rfl (Nat.le_refl _) hl (fun p hp => (keyR_tup kr p hp).sq) few q
/-- sorted(x): a dict's keys, or as ever -/
def fSortT : FA := fun rs ρ Qd => match rs with
  | [r] => (match dAtT r ρ with
    | some kvs => (((∀ kv ∈ kvs, 1 ≤ kv.1.length) ∨ kvs.length < 2)) ∧ Qd (.tmp (sortD ((kvs.map (·.1)).map tuI))) ρ
    | none => vA1 gSortZ [r] ρ Qd)
  | _ => False
theorem sndA_sortZ (hK : X.K = c.K) : SndA c (fun v H Q => (rSortX X.K v H Q ∨ rSortS X.K v H Q) ∨ rSortT X.K v H Q) (vA1 gSortZ) := sndA1 fun G H σ ρ v r d Qd Q rl rr h1 q hg => by
  cases d with
  | list ds =>
    obtain ⟨q0, q⟩ := q
    obtain ⟨a1, us, rfl, t1, p1⟩ := vw_lst rl rr h1
    rcases q0 with ⟨⟨s1, s2, s3⟩, s4⟩ | hs
    · exact .inl (.inl ⟨a1, us, ds, rfl, SqL.of t1, RpAll.dp _ _ (by rw [hK]; exact RpAll.mono rl.ext _ _ p1) s1, s2, s3, s4, fun p' ys hP hp => got_lst hg rl (paired_rp (hP _ (rp_paired p1))) q p' hp⟩)
    · rw [sortD_short hs] at q
      exact .inl (.inr ⟨a1, us, rfl, SqL.of t1, by rw [RpAll.length p1]; exact hs, got_lst hg rl p1 q⟩)
  | tuple ds =>
    obtain ⟨⟨⟨s1, s2, s3⟩, s4⟩, q⟩ := q
    obtain ⟨a1, us, rfl, t1, p1⟩ := vw_tup rl rr h1
    exact .inr ⟨a1, us, ds, rfl, by rw [hK]; exact (t1.mono rl.ext).sq, RpAll.dp _ _ (by rw [hK]; exact RpAll.mono rl.ext _ _ p1) s1, s2, s3, s4, fun p' ys hP hp => got_lst hg rl (paired_rp (hP _ (rp_paired p1))) q p' hp⟩
  | _ => exact q.elim
theorem sndA_sortT (hK : X.K = c.K) : SndA c (fun v H Q => rSortDT X.K v H Q ∨ ((rSortX X.K v H Q ∨ rSortS X.K v H Q) ∨ rSortT X.K v H Q)) fSortT := fun G H σ ρ vs rs Qd Q rl rr q hg => by
  unfold fSortT at q
  split at q
  · rename_i r
    cases e : dAtT r ρ with
    | none =>
      rw [e] at q
      exact .inr (sndA_sortZ hK G H σ ρ vs [r] Qd Q rl rr q hg)
    | some kvs =>
      rw [e] at q
      obtain ⟨few, q⟩ := q
      cases rr with
      | cons r1 t =>
        cases t
        obtain ⟨i, l, a, xs, ws, rfl, h1, h2, ev, h3, h4, h5⟩ := dAtT_ok rl r1.2 e
        subst ev
        have ef := keyR_fst h4 h5
        have el : (keysM xs).length = kvs.length := by
          have := congrArg List.length ef
          simpa using this
        have eD : kyD (keysM xs) = (kvs.map (·.1)).map tuI := by
          rw [← ef, List.map_map]
          rfl
        refine .inl ⟨a, ws, xs, rfl, h3, by rw [hK]; exact h4.mono rl.ext, ?_, fun q' ys hP => ?_⟩
        · refine few.elim (fun h => .inl fun p hp => ?_) fun h => .inr (by rw [el]; exact h)
          have : p.2 ∈ kvs.map (·.1) := by rw [← ef]; exact List.mem_map.mpr ⟨p, hp, rfl⟩
          obtain ⟨kv, hk, e3⟩ := List.mem_map.mp this
          rw [← e3]
          exact h kv hk
        · have rp := rp_keys (K := c.K) (G := G) (M := keysM xs) (keyR_tup h4)
          rw [← eD] at q
          exact got_lst hg rl (paired_rp (hP _ (rp_paired rp))) q q'
  · exact q.elim
theorem d_sortedT (hr : Rm k X.A) (hc : X.calm = true) (hg : Gl X "sorted") (hm : X.mg "sorted" = none) (ha : DA X c [e] ws) (hK : X.K = c.K := by rfl) (he : starEach [e] X.env = (false, eval e X.env) :: starEach [] X.env := by rfl) (hpl : (backTo pos (starEach [] X.env)).any (·.1) = false := by rfl) : DE X c (.Call (.Name "sorted" p) [e] [] pos) (wA fSortT ws) :=
  d_callB (CallR.or (cr_sortDT hc hr.u66) (CallR.or (CallR.or (cr_sortedX hr.u66) cr_sortedS) (cr_sortedTup hr.u66))) (sndA_sortT hK) hg hm (by decide +kernel) ha (he := he) (hpl := hpl)
end
end Tr

namespace Tr
open PySem L2
section
variable {X : Cx} {c : Ct} {a b : Expr} {wa wb : WE} {pos : Pos}
/-! ### 1 << k -/
def gShl1 : D → D → (R → Prop) → Prop := fun d e q => match d, e with
  | .int i, .int k => (i = 1 ∧ 0 ≤ k ∧ k ≤ 1000) ∧ q (.im (.int (2 ^ k.toNat)))
  | _, _ => False
theorem ok_shl1 : Ok2 c (fun x y H Q => ∃ k : Nat, x = .int 1 ∧ y = .int (k : Int) ∧ k ≤ 134217727 ∧ Q (.int (2 ^ k)) H) gShl1 := fun G H σ ρ v v' r r' d e Qd Q rl rr rr' h1 h2 q hg => by
  cases d with
  | int i =>
    cases e with
    | int k =>
      have e1 := vw_int rl rr h1
      have e2 := vw_int rl rr' h2
      subst e1 e2
      have q' : (i = 1 ∧ 0 ≤ k ∧ k ≤ 1000) ∧ Qd (.im (.int (2 ^ k.toNat))) ρ := q
      obtain ⟨⟨rfl, k0, k1⟩, q'⟩ := q'
      exact ⟨k.toNat, rfl, by rw [Int.toNat_of_nonneg k0], by omega, hg _ (.im (.int (2 ^ k.toNat))) ρ G H (Nw.refl rl) (Rp.int _) trivial q'⟩
    | _ => exact q.elim
  | _ => exact q.elim
theorem d_shl1 (ha : DE X c a wa) (hb : DE X c b wb) : DE X c (.BinOp a .LShift b pos) (w2 (v2 gShl1) wa wb) := d_op op_oneShl (snd2 ok_shl1) ha hb
end
theorem if_bT {A B : Prop} (h : B) : IfW (!true) A B := if_no h
theorem if_bF {A B : Prop} (h : A) : IfW (!false) A B := if_yes h
end Tr

namespace Tr
open PySem L2
section
variable {X : Cx} {c : Ct} {a b : Expr} {wa wb : WE} {pos : Pos}
/-! ### x is True, of bools -/
def gIsB (neg : Bool) : D → D → (R → Prop) → Prop := fun d e q => match d, e with
  | .bool x, .bool y => q (.im (.bool (if neg then !decide (x = y) else decide (x = y))))
  | _, _ => False
theorem isB_inv {neg : Bool} {d e : D} {q : R → Prop} (h : gIsB neg d e q) : ∃ x y, d = .bool x ∧ e = .bool y ∧ q (.im (.bool (if neg then !decide (x = y) else decide (x = y)))) := by
  unfold gIsB at h
  split at h
  · exact ⟨_, _, rfl, rfl, h⟩
  · exact h.elim
theorem ok_isB : Ok2 c (fun x y H Q => ∃ a b, x = .bl a ∧ y = .bl b ∧ Q (.bl (decide (a = b))) H) (gIsB false) := fun G H σ ρ v v' r r' d e Qd Q rl rr rr' h1 h2 q hg => by
  obtain ⟨x, y, rfl, rfl, q⟩ := isB_inv q
  exact ⟨x, y, vw_flat rl rr h1 rfl, vw_flat rl rr' h2 rfl, got_flat hg rl rfl q⟩
theorem ok_notB : Ok2 c (fun x y H Q => ∃ a b, x = .bl a ∧ y = .bl b ∧ Q (.bl (!decide (a = b))) H) (gIsB true) := fun G H σ ρ v v' r r' d e Qd Q rl rr rr' h1 h2 q hg => by
  obtain ⟨x, y, rfl, rfl, q⟩ := isB_inv q
  exact ⟨x, y, vw_flat rl rr h1 rfl, vw_flat rl rr' h2 rfl, got_flat hg rl rfl q⟩
theorem d_isB (ha : DE X c a wa) (hb : DE X c b wb) : DE X c (.Compare a [.Is] [b] pos) (w2 (v2 (gIsB false)) wa wb) := d_cmp op_is_bl (snd2 ok_isB) ha hb (nomark _)
theorem d_notB (ha : DE X c a wa) (hb : DE X c b wb) : DE X c (.Compare a [.IsNot] [b] pos) (w2 (v2 (gIsB true)) wa wb) := d_cmp op_isnot_bl (snd2 ok_notB) ha hb (nomark _)
theorem d_tisB (ha : DE X c a wa) (hb : DE X c b wb) : DT X c (.Compare a [.Is] [b] pos) (wT (w2 (v2 (gIsB false)) wa wb)) := d_tcmp op_is_bl (snd2 ok_isB) ha hb (nomark _)
theorem d_tnotB (ha : DE X c a wa) (hb : DE X c b wb) : DT X c (.Compare a [.IsNot] [b] pos) (wT (w2 (v2 (gIsB true)) wa wb)) := d_tcmp op_isnot_bl (snd2 ok_notB) ha hb (nomark _)
end
end Tr

namespace Tr
open PySem L2

/-! ### the text -/
def topS (i : Nat) : Stmt := PySem.Challenge.pw_rowswithin_k25_whole_main_closed_classes.main.body.getD i (.Pass ⟨0, 0, 0, 0⟩)
abbrev s_nexts : Stmt := topS 1
abbrev s_collect : Stmt := topS 2
abbrev s_first_placing : Stmt := topS 3
abbrev s_barred_by : Stmt := topS 5
abbrev s_sum_bar : Stmt := topS 7
abbrev s_skew_bar : Stmt := topS 8
abbrev s_block_bar : Stmt := topS 9
abbrev s_u_law_deck : Stmt := topS 11
abbrev s_u_law_draw : Stmt := topS 12
abbrev s_u_law_pick : Stmt := topS 13
abbrev s_u_law_row : Stmt := topS 14
abbrev s_u_law_like : Stmt := topS 15
abbrev s_u_law_fits : Stmt := topS 16
abbrev s_u_law_placing : Stmt := topS 17
abbrev s_u_law_is_in : Stmt := topS 18
abbrev s_u_law_bars : Stmt := topS 19
abbrev s_u_law_is_member : Stmt := topS 20
abbrev s_u_law_least_rows : Stmt := topS 21
abbrev s_u_law_cut : Stmt := topS 22
abbrev s_u_law_block : Stmt := topS 23
abbrev s_u_law_put : Stmt := topS 24
abbrev s_u_law_filled : Stmt := topS 25
abbrev s_u_law_member : Stmt := topS 26
abbrev s_u_law_are_closed : Stmt := topS 27
abbrev s_law : Stmt := topS 28
theorem sc_nexts : FnScope ["row", "pattern", "places", "wanted", "low", "high", "number", "place", "first", "last"] ["row", "pattern", "places"] (defScope s_nexts) := ⟨rfl, rfl, rfl, by decide +kernel, rfl, by decide +kernel, by decide +kernel⟩
theorem sc_collect : FnScope ["row", "pattern", "places", "found", "most", "place"] ["row", "pattern", "places", "found", "most"] (defScope s_collect) := ⟨rfl, rfl, rfl, by decide +kernel, rfl, by decide +kernel, by decide +kernel⟩
theorem sc_first_placing : FnScope ["row", "pattern", "found"] ["row", "pattern"] (defScope s_first_placing) := ⟨rfl, rfl, rfl, by decide +kernel, rfl, by decide +kernel, by decide +kernel⟩
theorem sc_barred_by : FnScope ["bars", "row", "number", "bar", "places"] ["bars", "row"] (defScope s_barred_by) := ⟨rfl, rfl, rfl, by decide +kernel, rfl, by decide +kernel, by decide +kernel⟩
theorem sc_sum_bar : FnScope ["bars", "number", "bar", "cut"] ["bars"] (defScope s_sum_bar) := ⟨rfl, rfl, rfl, by decide +kernel, rfl, by decide +kernel, by decide +kernel⟩
theorem sc_skew_bar : FnScope ["bars", "number", "bar", "cut"] ["bars"] (defScope s_skew_bar) := ⟨rfl, rfl, rfl, by decide +kernel, rfl, by decide +kernel, by decide +kernel⟩
theorem sc_block_bar : FnScope ["bars", "number", "bar", "first", "end", "items"] ["bars"] (defScope s_block_bar) := ⟨rfl, rfl, rfl, by decide +kernel, rfl, by decide +kernel, by decide +kernel⟩
theorem sc_u_law_deck : FnScope ["script", "deck", "cell", "own"] ["script"] (defScope s_u_law_deck) := ⟨rfl, rfl, rfl, by decide +kernel, rfl, by decide +kernel, by decide +kernel⟩
theorem sc_u_law_draw : FnScope ["deck", "many", "great", "number"] ["deck", "many"] (defScope s_u_law_draw) := ⟨rfl, rfl, rfl, by decide +kernel, rfl, by decide +kernel, by decide +kernel⟩
theorem sc_u_law_pick : FnScope ["deck", "row"] ["deck", "row"] (defScope s_u_law_pick) := ⟨rfl, rfl, rfl, by decide +kernel, rfl, by decide +kernel, by decide +kernel⟩
theorem sc_u_law_row : FnScope ["deck", "many", "left", "found"] ["deck", "many"] (defScope s_u_law_row) := ⟨rfl, rfl, rfl, by decide +kernel, rfl, by decide +kernel, by decide +kernel⟩
theorem sc_u_law_like : FnScope ["items", "order", "item"] ["items"] (defScope s_u_law_like) := ⟨rfl, rfl, rfl, by decide +kernel, rfl, by decide +kernel, by decide +kernel⟩
theorem sc_u_law_fits : FnScope ["row", "pattern", "chosen", "place", "k", "j", "own"] ["row", "pattern", "chosen", "place"] (defScope s_u_law_fits) := ⟨rfl, rfl, rfl, by decide +kernel, rfl, by decide +kernel, by decide +kernel⟩
theorem sc_u_law_placing : FnScope ["row", "pattern", "todo", "chosen", "start", "place"] ["row", "pattern"] (defScope s_u_law_placing) := ⟨rfl, rfl, rfl, by decide +kernel, rfl, by decide +kernel, by decide +kernel⟩
theorem sc_u_law_is_in : FnScope ["pattern", "row"] ["pattern", "row"] (defScope s_u_law_is_in) := ⟨rfl, rfl, rfl, by decide +kernel, rfl, by decide +kernel, by decide +kernel⟩
theorem sc_u_law_bars : FnScope ["deck", "longest", "found", "turn", "rows", "row", "own"] ["deck", "longest"] (defScope s_u_law_bars) := ⟨rfl, rfl, rfl, by decide +kernel, rfl, by decide +kernel, by decide +kernel⟩
theorem sc_u_law_is_member : FnScope ["bars", "row", "bar"] ["bars", "row"] (defScope s_u_law_is_member) := ⟨rfl, rfl, rfl, by decide +kernel, rfl, by decide +kernel, by decide +kernel⟩
theorem sc_u_law_least_rows : FnScope ["rows", "some", "row", "own"] ["rows"] (defScope s_u_law_least_rows) := ⟨rfl, rfl, rfl, by decide +kernel, rfl, by decide +kernel, by decide +kernel⟩
theorem sc_u_law_cut : FnScope ["bars", "is_skew", "k", "bar", "cut", "low", "high"] ["bars", "is_skew"] (defScope s_u_law_cut) := ⟨rfl, rfl, rfl, by decide +kernel, rfl, by decide +kernel, by decide +kernel⟩
theorem sc_u_law_block : FnScope ["bars", "k", "bar", "i", "j"] ["bars"] (defScope s_u_law_block) := ⟨rfl, rfl, rfl, by decide +kernel, rfl, by decide +kernel, by decide +kernel⟩
theorem sc_u_law_put : FnScope ["one", "other", "is_skew", "item"] ["one", "other", "is_skew"] (defScope s_u_law_put) := ⟨rfl, rfl, rfl, by decide +kernel, rfl, by decide +kernel, by decide +kernel⟩
theorem sc_u_law_filled : FnScope ["row", "parts", "sizes", "item", "found", "place", "own"] ["row", "parts"] (defScope s_u_law_filled) := ⟨rfl, rfl, rfl, by decide +kernel, rfl, by decide +kernel, by decide +kernel⟩
theorem sc_u_law_member : FnScope ["deck", "bars", "most", "row", "places", "bar", "place", "own"] ["deck", "bars", "most"] (defScope s_u_law_member) := ⟨rfl, rfl, rfl, by decide +kernel, rfl, by decide +kernel, by decide +kernel⟩
theorem sc_u_law_are_closed : FnScope ["deck", "bars", "dues", "one", "other", "k", "bar", "cut", "parts", "own", "row", "place", "i", "j", "outer", "inner"] ["deck", "bars", "dues"] (defScope s_u_law_are_closed) := ⟨rfl, rfl, rfl, by decide +kernel, rfl, by decide +kernel, by decide +kernel⟩
theorem sc_law : FnScope ["script", "deck", "turn", "bars", "rows", "again", "kept", "dues", "told", "named"] ["script"] (defScope s_law) := ⟨rfl, rfl, rfl, by decide +kernel, rfl, by decide +kernel, by decide +kernel⟩

/-! ### what each def does to data -/
def w_nexts : WS := wSeq (wAsg (wA fTup (wCons (w2 (v2 gIx) (wV 1) (wA (vA1 gLen) (wCons (wV 2) (wN)))) (wCons (w1 (v1 gNeg) (wC (.int 1))) (wCons (wA (vA1 gLen) (wCons (wV 0) (wN))) (wN))))) (wgQ 3 (wgsC (wgN 3) (wgsC (wgN 4) (wgsC (wgN 5) (wgsN)))))) (wSeq (wFor (wiE (wCons (wV 2) (wN))) (wgT 2 (wgsC (wgN 6) (wgsC (wgN 7) (wgsN)))) (wIfS (wT (w2 (v2 cLt) (w2 (v2 gIx) (wV 1) (wV 6)) (wV 3))) (wSet 4 (wA (vA2 gMax2) (wCons (wV 4) (wCons (w2 (v2 gIx) (wV 0) (wV 7)) (wN))))) (wSet 5 (wA (vA2 gMin2) (wCons (wV 5) (wCons (w2 (v2 gIx) (wV 0) (wV 7)) (wN))))))) (wSeq (wSet 8 (wIf (wT (w2 (v2 gNe) (wV 2) (wA fTup (wN)))) (w2 (v2 gAdd) (w2 (v2 gIx) (wV 2) (w1 (v1 gNeg) (wC (.int 1)))) (wC (.int 1))) (wC (.int 0)))) (wSeq (wSet 9 (w2 (v2 gSub) (wA (vA1 gLen) (wCons (wV 0) (wN))) (w2 (v2 gSub) (wA (vA1 gLen) (wCons (wV 1) (wN))) (wA (vA1 gLen) (wCons (wV 2) (wN)))))) (wRet (wLc [7] (wiR (wRg2 (wCons (wV 8) (wCons (w2 (v2 gAdd) (wV 9) (wC (.int 1))) (wN))))) (wgN 7) (wT (wCh gLt gLt (wV 4) (w2 (v2 gIx) (wV 0) (wV 7)) (wV 5))) (wV 7))))))
def w_collect : Nat → WS
  | 0 => fun _ _ => False
  | fu + 1 => wSeq (wIfS (wT (w2 (v2 gEq) (wA (vA1 gLen) (wCons (wV 2) (wN))) (wA (vA1 gLen) (wCons (wV 1) (wN))))) (wSeq (wDrop (wM "list" fApp (wV 3) (wCons (wV 2) (wN)))) (wRetN)) (wNil)) (wFor (wiS (wCallL 10 3 w_nexts (wCons (wV 0) (wCons (wV 1) (wCons (wV 2) (wN)))))) (wgN 5) (wIfS (wT (w2 (v2 cLe) (wA (vA1 gLen) (wCons (wV 3) (wN))) (wV 4))) (wDrop (wCallM 6 5 3 (w_collect fu) (wCons (wV 0) (wCons (wV 1) (wCons (w2 (v2 gAdd) (wV 2) (wA fTup (wCons (wV 5) (wN)))) (wCons (wV 3) (wCons (wV 4) (wN)))))))) (wNil)))
def w_first_placing : WS := wSeq (wSet 2 (wA fLst (wN))) (wSeq (wDrop (wCallM 6 5 3 (w_collect 6) (wCons (wV 0) (wCons (wV 1) (wCons (wA fTup (wN)) (wCons (wV 2) (wCons (wC (.int 0)) (wN)))))))) (wRet (wIf (wT (w2 (v2 gNe) (wV 2) (wA fLst (wN)))) (w2 (v2 gIx) (wV 2) (wC (.int 0))) (wC .none))))
def w_barred_by : WS := wSeq (wFor (wiE (wCons (wV 0) (wN))) (wgT 2 (wgsC (wgN 2) (wgsC (wgN 3) (wgsN)))) (wSeq (wSet 4 (wCallL 3 2 w_first_placing (wCons (wV 1) (wCons (wV 3) (wN))))) (wIfS (wT (w2 (v2 (gIsN true)) (wV 4) (wC .none))) (wRet (wA fTup (wCons (wV 2) (wCons (wV 4) (wN))))) (wNil)))) (wRet (wC .none))
def w_sum_bar : WS := wSeq (wFor (wiE (wCons (wV 0) (wN))) (wgT 2 (wgsC (wgN 1) (wgsC (wgN 2) (wgsN)))) (wFor (wiR (wRg2 (wCons (wC (.int 1)) (wCons (wA (vA1 gLen) (wCons (wV 2) (wN))) (wN))))) (wgN 3) (wIfS (wT (w2 (v2 gEq) (wA (vA1 (gExt PySem.W.maxD)) (wCons (wSl (wV 2) (wON) (wOS (wV 3))) (wN))) (w2 (v2 gSub) (wV 3) (wC (.int 1))))) (wRet (wA fTup (wCons (wV 1) (wCons (wV 3) (wN))))) (wNil)))) (wRet (wC .none))
def w_skew_bar : WS := wSeq (wFor (wiE (wCons (wV 0) (wN))) (wgT 2 (wgsC (wgN 1) (wgsC (wgN 2) (wgsN)))) (wFor (wiR (wRg2 (wCons (wC (.int 1)) (wCons (wA (vA1 gLen) (wCons (wV 2) (wN))) (wN))))) (wgN 3) (wIfS (wT (w2 (v2 gEq) (wA (vA1 (gExt PySem.W.minD)) (wCons (wSl (wV 2) (wON) (wOS (wV 3))) (wN))) (w2 (v2 gSub) (wA (vA1 gLen) (wCons (wV 2) (wN))) (wV 3)))) (wRet (wA fTup (wCons (wV 1) (wCons (wV 3) (wN))))) (wNil)))) (wRet (wC .none))
def w_block_bar : WS := wSeq (wFor (wiE (wCons (wV 0) (wN))) (wgT 2 (wgsC (wgN 1) (wgsC (wgN 2) (wgsN)))) (wFor (wiR (wRg1 (wCons (wA (vA1 gLen) (wCons (wV 2) (wN))) (wN)))) (wgN 3) (wFor (wiR (wRg2 (wCons (w2 (v2 gAdd) (wV 3) (wC (.int 2))) (wCons (w2 (v2 gAdd) (wA (vA1 gLen) (wCons (wV 2) (wN))) (wC (.int 1))) (wN))))) (wgN 4) (wSeq (wSet 5 (wSl (wV 2) (wOS (wV 3)) (wOS (wV 4)))) (wIfS (wAnd (wT (w2 (v2 gEq) (w2 (v2 gSub) (wA (vA1 (gExt PySem.W.maxD)) (wCons (wV 5) (wN))) (wA (vA1 (gExt PySem.W.minD)) (wCons (wV 5) (wN)))) (w2 (v2 gSub) (w2 (v2 gSub) (wV 4) (wV 3)) (wC (.int 1))))) (wT (w2 (v2 cLt) (w2 (v2 gSub) (wV 4) (wV 3)) (wA (vA1 gLen) (wCons (wV 2) (wN)))))) (wRet (wA fTup (wCons (wV 1) (wCons (wA fTup (wCons (wV 3) (wCons (wV 4) (wN)))) (wN))))) (wNil)))))) (wRet (wC .none))
def w_deck0 : WS := wSet 1 (wDisp [(.inr "great"), (.inr "mixed"), (.inr "turns")] (wCons (wA fLst (wN)) (wCons (w2 (v2 gAdd) (wC (.int 1625325)) (wA (vA1 gLen) (wCons (wSl (wV 0) (wON) (wOS (wC (.int 63)))) (wN)))) (wCons (wC (.int 0)) (wN)))))
def w_u_law_pick : WS := wRet (w2 (v2 gIx) (wV 1) (wCallL 4 2 wOf (wCons (wV 0) (wCons (wA (vA1 gLen) (wCons (wV 1) (wN))) (wN)))))
def w_u_law_row : WS := wSeq (wPar 2 3 (wLR1 (wV 1)) (wA fLst (wN))) (wSeq (wWhile (wT (w2 (v2 gNe) (wV 2) (wA fLst (wN)))) (wDrop (wM "list" fApp (wV 3) (wCons (wM "list" fPopI (wV 2) (wCons (wCallL 4 2 wOf (wCons (wV 0) (wCons (wA (vA1 gLen) (wCons (wV 2) (wN))) (wN)))) (wN))) (wN))))) (wRet (wA (vA1 gTuple) (wCons (wV 3) (wN)))))
def w_u_law_like : WS := wSeq (wSet 1 (wA (vA1 gSortY) (wCons (wV 0) (wN)))) (wRet (wA (vA1 gTuple) (wCons (wLc [2] (wiS (wV 0)) (wgN 2) (wYes) (wIdx (wV 1) (wV 2))) (wN))))
def w_u_law_fits : WS := wSeq (wSet 4 (wA (vA1 gLen) (wCons (wV 2) (wN)))) (wSeq (wFor (wiE (wCons (wV 2) (wN))) (wgT 2 (wgsC (wgN 5) (wgsC (wgN 6) (wgsN)))) (wIfS (wT (w2 (v2 gNe) (w2 (v2 cLt) (w2 (v2 gIx) (wV 0) (wV 6)) (w2 (v2 gIx) (wV 0) (wV 3))) (w2 (v2 cLt) (w2 (v2 gIx) (wV 1) (wV 5)) (w2 (v2 gIx) (wV 1) (wV 4))))) (wRet (wC (.bool false))) (wNil))) (wRet (wC (.bool true))))
def w_u_law_placing : WS := wSeq (wSet 2 (wA fLst (wCons (wA fTup (wN)) (wN)))) (wSeq (wWhile (wT (w2 (v2 gNe) (wV 2) (wA fLst (wN)))) (wSeq (wSet 3 (wM0 "list" fPop0 (wV 2))) (wSeq (wIfS (wT (w2 (v2 gEq) (wA (vA1 gLen) (wCons (wV 3) (wN))) (wA (vA1 gLen) (wCons (wV 1) (wN))))) (wRet (wV 3)) (wNil)) (wSeq (wSet 4 (wIf (wT (w2 (v2 gNe) (wV 3) (wA fTup (wN)))) (w2 (v2 gAdd) (w2 (v2 gIx) (wV 3) (w1 (v1 gNeg) (wC (.int 1)))) (wC (.int 1))) (wC (.int 0)))) (wFor (wiC (wCons (w2 (v2 gAdd) (w2 (v2 gSub) (wA (vA1 gLen) (wCons (wV 0) (wN))) (wA (vA1 gLen) (wCons (wV 1) (wN)))) (wA (vA1 gLen) (wCons (wV 3) (wN)))) (wCons (w2 (v2 gSub) (wV 4) (wC (.int 1))) (wCons (w1 (v1 gNeg) (wC (.int 1))) (wN))))) (wgN 5) (wIfS (wT (wCallL 7 4 w_u_law_fits (wCons (wV 0) (wCons (wV 1) (wCons (wV 3) (wCons (wV 5) (wN))))))) (wDrop (wM "list" fApp (wV 2) (wCons (w2 (v2 gAdd) (wV 3) (wA fTup (wCons (wV 5) (wN)))) (wN)))) (wNil))))))) (wRet (wC .none)))
def w_u_law_is_in : WS := wRet (w2 (v2 (gIsN true)) (wCallL 6 2 w_u_law_placing (wCons (wV 1) (wCons (wV 0) (wN)))) (wC .none))
def w_u_law_bars : WS := wSeq (wSet 2 (wDnewT)) (wSeq (wFor (wiR (wRg1 (wCons (w2 (v2 gAdd) (wC (.int 1)) (wCallL 4 2 wOf (wCons (wV 0) (wCons (wCallL 2 2 w_u_law_pick (wCons (wV 0) (wCons (wA fLst (wCons (wC (.int 1)) (wCons (wC (.int 2)) (wCons (wC (.int 3)) (wCons (wC (.int 4)) (wN)))))) (wN)))) (wN))))) (wN)))) (wgN 3) (wAsg (wC (.bool true)) (wgST (wV 2) (wCallL 4 2 w_u_law_row (wCons (wV 0) (wCons (wCallL 2 2 w_u_law_pick (wCons (wV 0) (wCons (wA fLst (wCons (wC (.int 2)) (wCons (wC (.int 3)) (wCons (wC (.int 3)) (wCons (wC (.int 3)) (wCons (wC (.int 4)) (wCons (wV 1) (wN)))))))) (wN)))) (wN))))))) (wSeq (wSet 4 (wA fSortT (wCons (wV 2) (wN)))) (wRet (wA (vA1 gTuple) (wCons (wLc [5] (wiS (wV 4)) (wgN 5) (wT (w2 (v2 gEq) (wLc [6] (wiS (wV 4)) (wgN 6) (wAnd (wT (w2 (v2 gNe) (wV 6) (wV 5))) (wT (wCallL 2 2 w_u_law_is_in (wCons (wV 6) (wCons (wV 5) (wN)))))) (wC (.int 1))) (wA fLst (wN)))) (wV 5)) (wN))))))
def w_u_law_is_member : WS := wRet (w2 (v2 gEq) (wLc [2] (wiS (wV 0)) (wgN 2) (wT (wCallL 2 2 w_u_law_is_in (wCons (wV 2) (wCons (wV 1) (wN))))) (wC (.int 1))) (wA fLst (wN)))
def w_u_law_least_rows : WS := wSeq (wSet 1 (w1 (v1 gSetS) (wV 0))) (wRet (wA (vA1 gTuple) (wCons (wLc [2] (wiS (wV 1)) (wgN 2) (wT (w2 (v2 gEq) (wLc [3] (wiS (wV 1)) (wgN 3) (wAnd (wT (w2 (v2 cLt) (wA (vA1 gLen) (wCons (wV 3) (wN))) (wA (vA1 gLen) (wCons (wV 2) (wN))))) (wT (wCallL 2 2 w_u_law_is_in (wCons (wV 3) (wCons (wV 2) (wN)))))) (wC (.int 1))) (wA fLst (wN)))) (wV 2)) (wN))))
def w_u_law_cut : WS := wSeq (wFor (wiE (wCons (wV 0) (wN))) (wgT 2 (wgsC (wgN 2) (wgsC (wgN 3) (wgsN)))) (wFor (wiR (wRg2 (wCons (wC (.int 1)) (wCons (wA (vA1 gLen) (wCons (wV 3) (wN))) (wN))))) (wgN 4) (wSeq (wAsg (wIf (wT (wV 1)) (wA fTup (wCons (wSl (wV 3) (wOS (wV 4)) (wON)) (wCons (wSl (wV 3) (wON) (wOS (wV 4))) (wN)))) (wA fTup (wCons (wSl (wV 3) (wON) (wOS (wV 4))) (wCons (wSl (wV 3) (wOS (wV 4)) (wON)) (wN))))) (wgQ 2 (wgsC (wgN 5) (wgsC (wgN 6) (wgsN))))) (wIfS (wT (w2 (v2 cLt) (wA (vA1 (gExt PySem.W.maxD)) (wCons (wV 5) (wN))) (wA (vA1 (gExt PySem.W.minD)) (wCons (wV 6) (wN))))) (wRet (wA fTup (wCons (wV 2) (wCons (wV 4) (wN))))) (wNil))))) (wRet (wC .none))
def w_u_law_block : WS := wSeq (wFor (wiE (wCons (wV 0) (wN))) (wgT 2 (wgsC (wgN 1) (wgsC (wgN 2) (wgsN)))) (wFor (wiR (wRg1 (wCons (wA (vA1 gLen) (wCons (wV 2) (wN))) (wN)))) (wgN 3) (wFor (wiR (wRg2 (wCons (w2 (v2 gAdd) (wV 3) (wC (.int 2))) (wCons (w2 (v2 gAdd) (wA (vA1 gLen) (wCons (wV 2) (wN))) (wC (.int 1))) (wN))))) (wgN 4) (wIfS (wAnd (wT (w2 (v2 cLt) (w2 (v2 gSub) (wV 4) (wV 3)) (wA (vA1 gLen) (wCons (wV 2) (wN))))) (wT (w2 (v2 gEq) (w2 (v2 gSub) (wA (vA1 (gExt PySem.W.maxD)) (wCons (wSl (wV 2) (wOS (wV 3)) (wOS (wV 4))) (wN))) (wA (vA1 (gExt PySem.W.minD)) (wCons (wSl (wV 2) (wOS (wV 3)) (wOS (wV 4))) (wN)))) (w2 (v2 gSub) (w2 (v2 gSub) (wV 4) (wV 3)) (wC (.int 1)))))) (wRet (wA fTup (wCons (wV 1) (wCons (wA fTup (wCons (wV 3) (wCons (wV 4) (wN)))) (wN))))) (wNil))))) (wRet (wC .none))
def w_u_law_put : WS := wSeq (wIfS (wT (wV 2)) (wRet (w2 (v2 gAdd) (wA (vA1 gTuple) (wCons (wLc [3] (wiS (wV 0)) (wgN 3) (wYes) (w2 (v2 gAdd) (wV 3) (wA (vA1 gLen) (wCons (wV 1) (wN))))) (wN))) (wV 1))) (wNil)) (wRet (w2 (v2 gAdd) (wV 0) (wA (vA1 gTuple) (wCons (wLc [3] (wiS (wV 1)) (wgN 3) (wYes) (w2 (v2 gAdd) (wV 3) (wA (vA1 gLen) (wCons (wV 0) (wN))))) (wN)))))
def w_u_law_filled : WS := wSeq (wSet 2 (wLc [3] (wiR (wRg1 (wCons (wA (vA1 gLen) (wCons (wV 0) (wN))) (wN)))) (wgN 3) (wYes) (wA (vA1 gLen) (wCons (w2 (v2 gIx) (wV 1) (wIdx (wV 0) (wV 3))) (wN))))) (wSeq (wSet 4 (wA fLst (wN))) (wSeq (wFor (wiE (wCons (wV 0) (wN))) (wgT 2 (wgsC (wgN 5) (wgsC (wgN 3) (wgsN)))) (wDrop (wM "list" fExt (wV 4) (wCons (wLc [6] (wiS (w2 (v2 gIx) (wV 1) (wV 5))) (wgN 6) (wYes) (w2 (v2 gAdd) (wA (vA1 gSum) (wCons (wSl (wV 2) (wON) (wOS (wV 3))) (wN))) (wV 6))) (wN))))) (wRet (wA (vA1 gTuple) (wCons (wV 4) (wN))))))
def w_u_law_member : WS := wSeq (wSet 3 (wCallL 4 2 w_u_law_row (wCons (wV 0) (wCons (wCallL 4 2 wOf (wCons (wV 0) (wCons (w2 (v2 gAdd) (wV 2) (wC (.int 1))) (wN)))) (wN))))) (wSeq (wWhile (wNot (wT (wCallL 3 2 w_u_law_is_member (wCons (wV 1) (wCons (wV 3) (wN)))))) (wSeq (wSet 4 (wLc [5] (wiS (wV 1)) (wgN 5) (wYes) (wCallL 6 2 w_u_law_placing (wCons (wV 3) (wCons (wV 5) (wN)))))) (wSeq (wSet 6 (wCallL 2 2 w_u_law_pick (wCons (wV 0) (wCons (w2 (v2 gIx) (wLc [7] (wiS (wV 4)) (wgN 7) (wT (w2 (v2 (gIsN true)) (wV 7) (wC .none))) (wV 7)) (wC (.int 0))) (wN))))) (wSet 3 (wCallL 3 1 w_u_law_like (wCons (w2 (v2 gAdd) (wSl (wV 3) (wON) (wOS (wV 6))) (wSl (wV 3) (wOS (w2 (v2 gAdd) (wV 6) (wC (.int 1)))) (wON))) (wN))))))) (wRet (wV 3)))
def w_u_law_are_closed : WS := wSeq (wPar 3 4 (wCallL 8 3 w_u_law_member (wCons (wV 0) (wCons (wV 1) (wCons (wC (.int 4)) (wN))))) (wCallL 8 3 w_u_law_member (wCons (wV 0) (wCons (wV 1) (wCons (wC (.int 4)) (wN)))))) (wSeq (wFor (wiS (wA fTup (wCons (wC (.int 0)) (wCons (wC (.int 1)) (wN))))) (wgN 5) (wSeq (wIfS (wAnd (wT (w2 (v2 (gIsN false)) (w2 (v2 gIx) (wV 2) (wV 5)) (wC .none))) (wT (w2 (v2 (gIsN true)) (wCallL 5 2 w_barred_by (wCons (wV 1) (wCons (wCallL 4 3 w_u_law_put (wCons (wV 3) (wCons (wV 4) (wCons (w2 (v2 gEq) (wV 5) (wC (.int 1))) (wN))))) (wN)))) (wC .none)))) (wRet (wC (.bool false))) (wNil)) (wIfS (wT (w2 (v2 (gIsN true)) (w2 (v2 gIx) (wV 2) (wV 5)) (wC .none))) (wSeq (wPar 6 7 (w2 (v2 gIx) (wV 1) (w2 (v2 gIx) (w2 (v2 gIx) (wV 2) (wV 5)) (wC (.int 0)))) (w2 (v2 gIx) (w2 (v2 gIx) (wV 2) (wV 5)) (wC (.int 1)))) (wSeq (wSet 8 (wA fLst (wCons (wCallL 3 1 w_u_law_like (wCons (wSl (wV 6) (wON) (wOS (wV 7))) (wN))) (wCons (wCallL 3 1 w_u_law_like (wCons (wSl (wV 6) (wOS (wV 7)) (wON)) (wN))) (wN))))) (wIfS (wOr (wT (w2 (v2 gNe) (wLc [9] (wiS (wV 8)) (wgN 9) (wYes) (wCallL 5 2 w_barred_by (wCons (wV 1) (wCons (wV 9) (wN))))) (wA fLst (wCons (wC .none) (wCons (wC .none) (wN)))))) (wT (w2 (v2 gNe) (wCallL 4 3 w_u_law_put (wCons (w2 (v2 gIx) (wV 8) (wC (.int 0))) (wCons (w2 (v2 gIx) (wV 8) (wC (.int 1))) (wCons (w2 (v2 gEq) (wV 5) (wC (.int 1))) (wN))))) (wV 6)))) (wRet (wC (.bool false))) (wNil)))) (wNil)))) (wSeq (wSet 10 (wCallL 8 3 w_u_law_member (wCons (wV 0) (wCons (wV 1) (wCons (wC (.int 3)) (wN)))))) (wSeq (wIfS (wT (w2 (v2 (gIsN false)) (w2 (v2 gIx) (wV 2) (wC (.int 2))) (wC .none))) (wSeq (wSet 9 (wCallL 7 2 w_u_law_filled (wCons (wV 10) (wCons (wLc [11] (wiS (wV 10)) (wgN 11) (wYes) (wCallL 8 3 w_u_law_member (wCons (wV 0) (wCons (wV 1) (wCons (wC (.int 3)) (wN)))))) (wN))))) (wRet (w2 (v2 (gIsN false)) (wCallL 5 2 w_barred_by (wCons (wV 1) (wCons (wV 9) (wN)))) (wC .none)))) (wNil)) (wSeq (wAsg (wA fTup (wCons (w2 (v2 gIx) (wV 1) (w2 (v2 gIx) (w2 (v2 gIx) (wV 2) (wC (.int 2))) (wC (.int 0)))) (wCons (w2 (v2 gIx) (w2 (v2 gIx) (wV 2) (wC (.int 2))) (wC (.int 1))) (wN)))) (wgQ 2 (wgsC (wgN 6) (wgsC (wgQ 2 (wgsC (wgN 12) (wgsC (wgN 13) (wgsN)))) (wgsN))))) (wSeq (wAsg (wA fTup (wCons (wCallL 3 1 w_u_law_like (wCons (w2 (v2 gAdd) (wSl (wV 6) (wON) (wOS (w2 (v2 gAdd) (wV 12) (wC (.int 1))))) (wSl (wV 6) (wOS (wV 13)) (wON))) (wN))) (wCons (wCallL 3 1 w_u_law_like (wCons (wSl (wV 6) (wOS (wV 12)) (wOS (wV 13))) (wN))) (wN)))) (wgQ 2 (wgsC (wgN 14) (wgsC (wgN 15) (wgsN))))) (wSeq (wSet 8 (wLc [11] (wiR (wRg1 (wCons (wA (vA1 gLen) (wCons (wV 14) (wN))) (wN)))) (wgN 11) (wYes) (wIf (wT (w2 (v2 gEq) (wV 11) (wV 12))) (wV 15) (wA fTup (wCons (wC (.int 0)) (wN)))))) (wRet (wAndV (w2 (v2 gEq) (wA fLst (wCons (wCallL 5 2 w_barred_by (wCons (wV 1) (wCons (wV 14) (wN)))) (wCons (wCallL 5 2 w_barred_by (wCons (wV 1) (wCons (wV 15) (wN)))) (wN)))) (wA fLst (wCons (wC .none) (wCons (wC .none) (wN))))) (w2 (v2 gEq) (wCallL 7 2 w_u_law_filled (wCons (wV 14) (wCons (wV 8) (wN)))) (wV 6))))))))))
def w_law : WS := wSeq (wFor (wiR (wRg1 (wCons (wC (.int 4)) (wN)))) (wgN 2) (wSeq (wSet 3 (wCallL 7 2 w_u_law_bars (wCons (wV 1) (wCons (wC (.int 5)) (wN))))) (wSeq (wIfS (wT (w2 (v2 gEq) (wCallL 4 2 wOf (wCons (wV 1) (wCons (wC (.int 5)) (wN)))) (wC (.int 0)))) (wSeq (wSet 4 (wA fLst (wCons (wA fTup (wCons (wC (.int 1)) (wCons (wC (.int 3)) (wCons (wC (.int 0)) (wCons (wC (.int 2)) (wN)))))) (wCons (wA fTup (wCons (wC (.int 2)) (wCons (wC (.int 0)) (wCons (wC (.int 3)) (wCons (wC (.int 1)) (wN)))))) (wCons (wA fTup (wCons (wC (.int 1)) (wCons (wC (.int 4)) (wCons (wC (.int 2)) (wCons (wC (.int 0)) (wCons (wC (.int 3)) (wN))))))) (wCons (wA fTup (wCons (wC (.int 2)) (wCons (wC (.int 4)) (wCons (wC (.int 0)) (wCons (wC (.int 3)) (wCons (wC (.int 1)) (wN))))))) (wCons (wA fTup (wCons (wC (.int 0)) (wCons (wC (.int 1)) (wCons (wC (.int 2)) (wN))))) (wCons (wA fTup (wCons (wC (.int 3)) (wCons (wC (.int 0)) (wCons (wC (.int 4)) (wCons (wC (.int 2)) (wCons (wC (.int 1)) (wN))))))) (wN))))))))) (wSet 3 (wCallL 4 1 w_u_law_least_rows (wCons (wLc [5] (wiR (wRg1 (wCons (wC (.int 2)) (wN)))) (wgN 5) (wYes) (wCallL 2 2 w_u_law_pick (wCons (wV 1) (wCons (wV 4) (wN))))) (wN))))) (wNil)) (wSeq (wIfS (wT (w2 (v2 gEq) (wCallL 4 2 wOf (wCons (wV 1) (wCons (wC (.int 20)) (wN)))) (wC (.int 0)))) (wSet 3 (wCallL 2 2 w_u_law_pick (wCons (wV 1) (wCons (wA fLst (wCons (wA fTup (wCons (wA fTup (wCons (wC (.int 0)) (wN))) (wN))) (wCons (wA fTup (wCons (wA fTup (wCons (wC (.int 0)) (wCons (wC (.int 1)) (wN)))) (wN))) (wCons (wA fTup (wCons (wA fTup (wCons (wC (.int 1)) (wCons (wC (.int 0)) (wN)))) (wN))) (wCons (wA fTup (wCons (wA fTup (wCons (wC (.int 0)) (wCons (wC (.int 1)) (wN)))) (wCons (wA fTup (wCons (wC (.int 1)) (wCons (wC (.int 0)) (wN)))) (wN)))) (wN)))))) (wN))))) (wNil)) (wSeq (wPar 6 7 (wA (vA1 gRepr) (wCons (wV 3) (wN))) (wA fLst (wCons (wCallL 7 2 w_u_law_cut (wCons (wV 3) (wCons (wC (.bool false)) (wN)))) (wCons (wCallL 7 2 w_u_law_cut (wCons (wV 3) (wCons (wC (.bool true)) (wN)))) (wCons (wCallL 5 1 w_u_law_block (wCons (wV 3) (wN))) (wN)))))) (wSeq (wSet 8 (wA fLst (wCons (wCallL 4 1 w_sum_bar (wCons (wV 3) (wN))) (wCons (wCallL 4 1 w_skew_bar (wCons (wV 3) (wN))) (wCons (wCallL 6 1 w_block_bar (wCons (wV 3) (wN))) (wN)))))) (wSeq (wSet 9 (wA fLst (wCons (wCallL 4 1 w_sum_bar (wBackA (wCons (wV 3) (wN)))) (wCons (wCallL 4 1 w_skew_bar (wBackA (wCons (wV 3) (wN)))) (wCons (wCallL 6 1 w_block_bar (wBackA (wCons (wV 3) (wN)))) (wN)))))) (wIfS (wOr (wT (w2 (v2 gNe) (wA (vA1 gRepr) (wCons (wA fLst (wCons (wV 8) (wCons (wV 9) (wN)))) (wN))) (wA (vA1 gRepr) (wCons (wA fLst (wCons (wV 7) (wCons (wV 7) (wN)))) (wN))))) (wOr (wNot (wT (wCallL 16 3 w_u_law_are_closed (wCons (wV 1) (wCons (wV 3) (wCons (wV 7) (wN))))))) (wT (w2 (v2 gNe) (wA (vA1 gRepr) (wCons (wV 3) (wN))) (wV 6))))) (wRet (wC (.bool false))) (wNil))))))))) (wRet (wC (.bool true)))

/-! ### what the top holds -/
structure Tops (K : PySem.W.Frag) (mg : Str → Option Value) : Prop where
  d_nexts : Df K mg "nexts" s_nexts ["row", "pattern", "places"]
  d_collect : Df K mg "collect" s_collect ["row", "pattern", "places", "found", "most"]
  d_first_placing : Df K mg "first_placing" s_first_placing ["row", "pattern"]
  d_barred_by : Df K mg "barred_by" s_barred_by ["bars", "row"]
  d_sum_bar : Df K mg "sum_bar" s_sum_bar ["bars"]
  d_skew_bar : Df K mg "skew_bar" s_skew_bar ["bars"]
  d_block_bar : Df K mg "block_bar" s_block_bar ["bars"]
  d_u_law_deck : Df K mg "_law_deck" s_u_law_deck ["script"]
  d_u_law_draw : Df K mg "_law_draw" s_u_law_draw ["deck", "many"]
  d_u_law_pick : Df K mg "_law_pick" s_u_law_pick ["deck", "row"]
  d_u_law_row : Df K mg "_law_row" s_u_law_row ["deck", "many"]
  d_u_law_like : Df K mg "_law_like" s_u_law_like ["items"]
  d_u_law_fits : Df K mg "_law_fits" s_u_law_fits ["row", "pattern", "chosen", "place"]
  d_u_law_placing : Df K mg "_law_placing" s_u_law_placing ["row", "pattern"]
  d_u_law_is_in : Df K mg "_law_is_in" s_u_law_is_in ["pattern", "row"]
  d_u_law_bars : Df K mg "_law_bars" s_u_law_bars ["deck", "longest"]
  d_u_law_is_member : Df K mg "_law_is_member" s_u_law_is_member ["bars", "row"]
  d_u_law_least_rows : Df K mg "_law_least_rows" s_u_law_least_rows ["rows"]
  d_u_law_cut : Df K mg "_law_cut" s_u_law_cut ["bars", "is_skew"]
  d_u_law_block : Df K mg "_law_block" s_u_law_block ["bars"]
  d_u_law_put : Df K mg "_law_put" s_u_law_put ["one", "other", "is_skew"]
  d_u_law_filled : Df K mg "_law_filled" s_u_law_filled ["row", "parts"]
  d_u_law_member : Df K mg "_law_member" s_u_law_member ["deck", "bars", "most"]
  d_u_law_are_closed : Df K mg "_law_are_closed" s_u_law_are_closed ["deck", "bars", "dues"]
  m_abs : mg "abs" = none
  m_enumerate : mg "enumerate" = none
  m_int : mg "int" = none
  m_len : mg "len" = none
  m_list : mg "list" = none
  m_max : mg "max" = none
  m_min : mg "min" = none
  m_range : mg "range" = none
  m_repr : mg "repr" = none
  m_set : mg "set" = none
  m_sorted : mg "sorted" = none
  m_sum : mg "sum" = none
  m_tuple : mg "tuple" = none
section
variable {P : Program} {w : World} {K : PySem.W.Frag} {mg : Str → Option Value} {base : Heap}
theorem f_nexts (T : Tops K mg) : Fk P w K mg base 1 "nexts" ["row", "pattern", "places"] 10 w_nexts := fk_of T.d_nexts sc_nexts rfl (by decide) fun f cdv A outer s H E pa le hr => d_scons (d_asg (d_tup (d_cons (d_sub1 (d_var (pv 1)) (d_len (by rfl) T.m_len (d_cons (d_var (pv 2)) (d_nil)))) (d_cons (d_neg (d_c pe_int rfl)) (d_cons (d_len (by rfl) T.m_len (d_cons (d_var (pv 0)) (d_nil))) (d_nil))))) (d_gQ rfl rfl (d_gsC (d_gN (pg_name (i := 3) sc_nexts.nd rfl (by first | exact .inl rfl | exact .inr rfl))) (d_gsC (d_gN (pg_name (i := 4) sc_nexts.nd rfl (by first | exact .inl rfl | exact .inr rfl))) (d_gsC (d_gN (pg_name (i := 5) sc_nexts.nd rfl (by first | exact .inl rfl | exact .inr rfl))) (d_gsN)))))) (d_scons (d_for (passes_of rfl) rfl (d_iE (by rfl) T.m_enumerate (d_cons (d_var (pv 2)) (d_nil))) (d_gTy rfl rfl (d_gsC (d_gN (pg_name (i := 6) sc_nexts.nd rfl (by first | exact .inl rfl | exact .inr rfl))) (d_gsC (d_gN (pg_name (i := 7) sc_nexts.nd rfl (by first | exact .inl rfl | exact .inr rfl))) (d_gsN)))) (d_sone (d_if (d_tltA hr (d_sub1 (d_var (pv 1)) (d_var (pv 6))) (d_var (pv 3))) (d_sone (d_set (i := 4) sc_nexts.nd rfl (by first | exact .inl rfl | exact .inr rfl) (d_max2 rfl (by rfl) T.m_max (d_cons (d_var (pv 4)) (d_cons (d_sub1 (d_var (pv 0)) (d_var (pv 7))) (d_nil)))))) (d_sone (d_set (i := 5) sc_nexts.nd rfl (by first | exact .inl rfl | exact .inr rfl) (d_min2 rfl (by rfl) T.m_min (d_cons (d_var (pv 5)) (d_cons (d_sub1 (d_var (pv 0)) (d_var (pv 7))) (d_nil))))))))) (d_scons (d_set (i := 8) sc_nexts.nd rfl (by first | exact .inl rfl | exact .inr rfl) (d_ifx (d_tne hr (d_var (pv 2)) (d_tup (d_nil))) (d_add (d_sub1 (d_var (pv 2)) (d_neg (d_c pe_int rfl))) (d_c pe_int rfl)) (d_c pe_int rfl))) (d_scons (d_set (i := 9) sc_nexts.nd rfl (by first | exact .inl rfl | exact .inr rfl) (d_sub (d_len (by rfl) T.m_len (d_cons (d_var (pv 0)) (d_nil))) (d_sub (d_len (by rfl) T.m_len (d_cons (d_var (pv 1)) (d_nil))) (d_len (by rfl) T.m_len (d_cons (d_var (pv 2)) (d_nil)))))) (d_sone (d_ret (d_lc (own := [(("place" : Str), 7)]) rfl sc_nexts.nd (blk_id (N := ["row", "pattern", "places", "wanted", "low", "high", "number", "place", "first", "last"]) (sc := defScope s_nexts) (by decide +kernel)) (d_iR2 (by rfl) T.m_range (d_cons (d_var (pv 8)) (d_cons (d_add (d_var (pv 9)) (d_c pe_int rfl)) (d_nil)))) (fun _ _ _ _ _ => d_gNv (pg_name (i := 7) sc_nexts.nd rfl (.inl rfl))) (fun _ _ _ _ _ => d_ts1 (d_chT op_lt (ok_I0 fun _ _ => flat_hid _) op_lt (ok_I0 fun _ _ => flat_hid _) (d_var (pv 4)) (d_sub1 (d_var (pv 0)) (d_var (pv 7))) (d_var (pv 5)))) (fun _ _ _ _ _ => d_var (pv 7))))))))
theorem f_collect (T : Tops K mg) : ∀ fu : Nat, Fk P w K mg base (2 + fu) "collect" ["row", "pattern", "places", "found", "most"] 6 (w_collect fu)
  | 0 => fk_fn T.d_collect (N := ["row", "pattern", "places", "found", "most", "place"]) rfl (by decide) fun f fd _ => ⟨fun _ _ _ _ q => q.1, fun _ _ _ _ _ _ _ _ _ _ _ _ _ q => by obtain ⟨_, _, _, _, _, _, _, q, _⟩ := q; exact q.elim⟩
  | fu + 1 => have FU := f_collect T fu
    fk_of T.d_collect sc_collect rfl (by decide) fun f cdv A outer s H E pa le hr => d_scons (d_if (d_teq hr (d_len (by rfl) T.m_len (d_cons (d_var (pv 2)) (d_nil))) (d_len (by rfl) T.m_len (d_cons (d_var (pv 1)) (d_nil)))) (d_scons (d_drop (d_app (d_var (pv 3)) (d_cons (d_var (pv 2)) (d_nil)))) (d_sone (d_retN))) (d_snil)) (d_sone (d_for (passes_of rfl) rfl (d_iS (d_fn ((f_nexts T).mono (k := (2 + fu)) (by first | decide | omega)) rfl rfl hr (by rfl) (d_cons (d_var (pv 0)) (d_cons (d_var (pv 1)) (d_cons (d_var (pv 2)) (d_nil)))))) (d_gy (d_gN (pg_name (i := 5) sc_collect.nd rfl (by first | exact .inl rfl | exact .inr rfl)))) (d_sone (d_if (d_tleA hr (d_len (by rfl) T.m_len (d_cons (d_var (pv 3)) (d_nil))) (d_var (pv 4))) (d_sone (d_drop (d_fnM (i := 3) FU rfl rfl hr (by rfl) (d_cons (d_var (pv 0)) (d_cons (d_var (pv 1)) (d_cons (d_add (d_var (pv 2)) (d_tup (d_cons (d_var (pv 5)) (d_nil)))) (d_cons (d_var (pv 3)) (d_cons (d_var (pv 4)) (d_nil))))))))) (d_snil)))))
theorem f_first_placing (T : Tops K mg) : Fk P w K mg base 9 "first_placing" ["row", "pattern"] 3 w_first_placing := fk_of T.d_first_placing sc_first_placing rfl (by decide) fun f cdv A outer s H E pa le hr => d_scons (d_set (i := 2) sc_first_placing.nd rfl (by first | exact .inl rfl | exact .inr rfl) (d_lst (d_nil))) (d_scons (d_drop (d_fnM (i := 3) ((f_collect T 6).mono (k := 8) (by first | decide | omega)) rfl rfl hr (by rfl) (d_cons (d_var (pv 0)) (d_cons (d_var (pv 1)) (d_cons (d_tup (d_nil)) (d_cons (d_var (pv 2)) (d_cons (d_c pe_int rfl) (d_nil)))))))) (d_sone (d_ret (d_ifx (d_tne hr (d_var (pv 2)) (d_lst (d_nil))) (d_sub1 (d_var (pv 2)) (d_c pe_int rfl)) (d_c pe_non rfl)))))
theorem f_barred_by (T : Tops K mg) : Fk P w K mg base 10 "barred_by" ["bars", "row"] 5 w_barred_by := fk_of T.d_barred_by sc_barred_by rfl (by decide) fun f cdv A outer s H E pa le hr => d_scons (d_for (passes_of rfl) rfl (d_iE (by rfl) T.m_enumerate (d_cons (d_var (pv 0)) (d_nil))) (d_gTy rfl rfl (d_gsC (d_gN (pg_name (i := 2) sc_barred_by.nd rfl (by first | exact .inl rfl | exact .inr rfl))) (d_gsC (d_gN (pg_name (i := 3) sc_barred_by.nd rfl (by first | exact .inl rfl | exact .inr rfl))) (d_gsN)))) (d_scons (d_set (i := 4) sc_barred_by.nd rfl (by first | exact .inl rfl | exact .inr rfl) (d_fn ((f_first_placing T).mono (k := 9) (by first | decide | omega)) rfl rfl hr (by rfl) (d_cons (d_var (pv 1)) (d_cons (d_var (pv 3)) (d_nil))))) (d_sone (d_if (d_tnotN (d_var (pv 4)) (d_c pe_non rfl)) (d_sone (d_ret (d_tup (d_cons (d_var (pv 2)) (d_cons (d_var (pv 4)) (d_nil)))))) (d_snil))))) (d_sone (d_ret (d_c pe_non rfl)))
theorem f_sum_bar (T : Tops K mg) : Fk P w K mg base 1 "sum_bar" ["bars"] 4 w_sum_bar := fk_of T.d_sum_bar sc_sum_bar rfl (by decide) fun f cdv A outer s H E pa le hr => d_scons (d_for (passes_of rfl) rfl (d_iE (by rfl) T.m_enumerate (d_cons (d_var (pv 0)) (d_nil))) (d_gTy rfl rfl (d_gsC (d_gN (pg_name (i := 1) sc_sum_bar.nd rfl (by first | exact .inl rfl | exact .inr rfl))) (d_gsC (d_gN (pg_name (i := 2) sc_sum_bar.nd rfl (by first | exact .inl rfl | exact .inr rfl))) (d_gsN)))) (d_sone (d_for (passes_of rfl) rfl (d_iR2 (by rfl) T.m_range (d_cons (d_c pe_int rfl) (d_cons (d_len (by rfl) T.m_len (d_cons (d_var (pv 2)) (d_nil))) (d_nil)))) (d_gy (d_gN (pg_name (i := 3) sc_sum_bar.nd rfl (by first | exact .inl rfl | exact .inr rfl)))) (d_sone (d_if (d_teq hr (d_maxX hr rfl (by rfl) T.m_max (d_cons (d_slice (d_var (pv 2)) (d_oN) (d_oS (d_var (pv 3)))) (d_nil))) (d_sub (d_var (pv 3)) (d_c pe_int rfl))) (d_sone (d_ret (d_tup (d_cons (d_var (pv 1)) (d_cons (d_var (pv 3)) (d_nil)))))) (d_snil)))))) (d_sone (d_ret (d_c pe_non rfl)))
theorem f_skew_bar (T : Tops K mg) : Fk P w K mg base 1 "skew_bar" ["bars"] 4 w_skew_bar := fk_of T.d_skew_bar sc_skew_bar rfl (by decide) fun f cdv A outer s H E pa le hr => d_scons (d_for (passes_of rfl) rfl (d_iE (by rfl) T.m_enumerate (d_cons (d_var (pv 0)) (d_nil))) (d_gTy rfl rfl (d_gsC (d_gN (pg_name (i := 1) sc_skew_bar.nd rfl (by first | exact .inl rfl | exact .inr rfl))) (d_gsC (d_gN (pg_name (i := 2) sc_skew_bar.nd rfl (by first | exact .inl rfl | exact .inr rfl))) (d_gsN)))) (d_sone (d_for (passes_of rfl) rfl (d_iR2 (by rfl) T.m_range (d_cons (d_c pe_int rfl) (d_cons (d_len (by rfl) T.m_len (d_cons (d_var (pv 2)) (d_nil))) (d_nil)))) (d_gy (d_gN (pg_name (i := 3) sc_skew_bar.nd rfl (by first | exact .inl rfl | exact .inr rfl)))) (d_sone (d_if (d_teq hr (d_minX hr rfl (by rfl) T.m_min (d_cons (d_slice (d_var (pv 2)) (d_oN) (d_oS (d_var (pv 3)))) (d_nil))) (d_sub (d_len (by rfl) T.m_len (d_cons (d_var (pv 2)) (d_nil))) (d_var (pv 3)))) (d_sone (d_ret (d_tup (d_cons (d_var (pv 1)) (d_cons (d_var (pv 3)) (d_nil)))))) (d_snil)))))) (d_sone (d_ret (d_c pe_non rfl)))
theorem f_block_bar (T : Tops K mg) : Fk P w K mg base 1 "block_bar" ["bars"] 6 w_block_bar := fk_of T.d_block_bar sc_block_bar rfl (by decide) fun f cdv A outer s H E pa le hr => d_scons (d_for (passes_of rfl) rfl (d_iE (by rfl) T.m_enumerate (d_cons (d_var (pv 0)) (d_nil))) (d_gTy rfl rfl (d_gsC (d_gN (pg_name (i := 1) sc_block_bar.nd rfl (by first | exact .inl rfl | exact .inr rfl))) (d_gsC (d_gN (pg_name (i := 2) sc_block_bar.nd rfl (by first | exact .inl rfl | exact .inr rfl))) (d_gsN)))) (d_sone (d_for (passes_of rfl) rfl (d_iR1 (by rfl) T.m_range (d_cons (d_len (by rfl) T.m_len (d_cons (d_var (pv 2)) (d_nil))) (d_nil))) (d_gy (d_gN (pg_name (i := 3) sc_block_bar.nd rfl (by first | exact .inl rfl | exact .inr rfl)))) (d_sone (d_for (passes_of rfl) rfl (d_iR2 (by rfl) T.m_range (d_cons (d_add (d_var (pv 3)) (d_c pe_int rfl)) (d_cons (d_add (d_len (by rfl) T.m_len (d_cons (d_var (pv 2)) (d_nil))) (d_c pe_int rfl)) (d_nil)))) (d_gy (d_gN (pg_name (i := 4) sc_block_bar.nd rfl (by first | exact .inl rfl | exact .inr rfl)))) (d_scons (d_set (i := 5) sc_block_bar.nd rfl (by first | exact .inl rfl | exact .inr rfl) (d_slice (d_var (pv 2)) (d_oS (d_var (pv 3))) (d_oS (d_var (pv 4))))) (d_sone (d_if (d_w (d_and (d_teq hr (d_sub (d_maxX hr rfl (by rfl) T.m_max (d_cons (d_var (pv 5)) (d_nil))) (d_minX hr rfl (by rfl) T.m_min (d_cons (d_var (pv 5)) (d_nil)))) (d_sub (d_sub (d_var (pv 4)) (d_var (pv 3))) (d_c pe_int rfl))) (d_and1 (d_tltA hr (d_sub (d_var (pv 4)) (d_var (pv 3))) (d_len (by rfl) T.m_len (d_cons (d_var (pv 2)) (d_nil))))))) (d_sone (d_ret (d_tup (d_cons (d_var (pv 1)) (d_cons (d_tup (d_cons (d_var (pv 3)) (d_cons (d_var (pv 4)) (d_nil)))) (d_nil)))))) (d_snil))))))))) (d_sone (d_ret (d_c pe_non rfl)))
theorem f_u_law_deck (T : Tops K mg) (m0 : ∀ ns : List Int, ns.length ≤ 63 → w_deck0 ⟨fun ρ => ρ.length = 4 ∧ ρ[0]? = some (.im (scrD ns)) ∧ ∃ m : Int, 0 ≤ m ∧ ρ[1]? = some (.own false (.d [(.inr "great", .list []), (.inr "mixed", .int m), (.inr "turns", .int 0)])), fun _ _ => False, fun _ => False, fun _ => False, fun _ => False⟩ (.im (scrD ns) :: List.replicate 3 .no)) : ∃ (f : Addr) (fd : FuncData), FnG P w K mg base CX0 1 f fd ["script"] (spDeck K) ∧ mg "_law_deck" = some (.ref f) ∧ PySem.W.keepIn K (.ref f) = true ∧ Binds K fd ["script"] [] :=
  let ⟨f, fd, F, hm, hb, _⟩ := T.d_u_law_deck.ex
  ⟨f, fd, deck_fn (k := 0) F sc_u_law_deck rfl rfl (fun f cdv A outer s H E hr => d_set (i := 1) sc_u_law_deck.nd rfl (by first | exact .inl rfl | exact .inr rfl) (d_disp [(((.inr "great") : Key), wA fLst (wN)), (((.inr "mixed") : Key), w2 (v2 gAdd) (wC (.int 1625325)) (wA (vA1 gLen) (wCons (wSl (wV 0) (wON) (wOS (wC (.int 63)))) (wN)))), (((.inr "turns") : Key), wC (.int 0))] (pps_cons pe_str (d_lst (d_nil)) (pps_cons pe_str (d_add (d_c pe_int rfl) (d_len (by rfl) T.m_len (d_cons (d_slice (d_var (pv 0)) (d_oN) (d_oS (d_c pe_int rfl))) (d_nil)))) (pps_cons pe_str (d_c pe_int rfl) (pps_nil))))))
    (fun f cdv A outer s H E hr => ⟨fun pins s' σ H' D I q => ((pss_cons (ps_for (passes_of rfl) rfl (pi_seq (pe_slice sl_list (pv 0) po_none (po_some pe_int))) (pg_name (i := 2) sc_u_law_deck.nd rfl (.inl rfl))
      (pss_cons (ps_set (i := 3) sc_u_law_deck.nd rfl (.inl rfl) (pe_op op_add (pe_op op_mul pe_int (pe_callB call_abs (by rfl) T.m_abs (by decide +kernel) (pa_cons (pv 2) pa_nil))) (pe_callTy call_int1 (by rfl) T.m_int (by decide +kernel) (pa_cons (pe_cmpR op_lt (pv 2) pe_int (nomark _)) pa_nil))))
      (pss_cons (ps_if (pt_cmpR op_ge (pv 3) (pe_op op_pow pe_int pe_int) (nomark _)) (pss_one (ps_expr (pe_bm PySem.F.plainAttrs_list PySem.F.slot_list_append PySem.F.type_list_append mt_append (pe_dget hr.u1 (pv 1) pe_str (fun _ _ => rfl)) (pa_cons (pv 3) pa_nil)))) pss_nil)
      (pss_one (ps_asg (pe_op op_mod (pe_callTy call_int1 (by rfl) T.m_int (by decide +kernel) (pa_cons (pe_op op_add (pe_op op_add (pe_op op_mul (pe_dget hr.u1 (pv 1) pe_str (fun _ _ => rfl)) pe_int) (pv 3)) pe_int) pa_nil)) pe_int) (pg_sub (pv 1) pe_str (set_dict hr.u1))))))) (pss_one (ps_ret (pv 1)))) : PSs (cxD P w K mg base _ "_law_deck" s_u_law_deck f cdv A outer s H E) _ (tDk K)).run pins s' σ H' D I q⟩) m0, hm, F.kp, hb⟩
theorem f_u_law_draw (T : Tops K mg) : Fk P w K mg base 1 "_law_draw" ["deck", "many"] 4 wOf := fk_of T.d_u_law_draw sc_u_law_draw rfl (by decide) fun f cdv A outer s H E pa le hr =>
  PSsw (t := tOf K) (pss_cons (ps_if (pt_cmpR op_lt (pv 1) pe_int (nomark _)) (pss_one (ps_ret pe_int)) pss_nil)
    (pss_cons (ps_if (pt_cmpR (op_neD hr.u64) (pe_dget hr.u1 (pv 0) pe_str (fun _ _ => rfl)) (pe_lst pa_nil) (nomark _))
      (pss_cons (ps_set (i := 2) sc_u_law_draw.nd rfl (.inl rfl) (pe_bm0 PySem.F.plainAttrs_list PySem.F.slot_list_pop PySem.F.type_list_pop mt_pop (pe_dget hr.u1 (pv 0) pe_str (fun _ _ => rfl))))
      (pss_cons (ps_if (pt_cmpR op_ge (pv 2) (pv 1) (nomark _)) (pss_one (ps_expr (pe_bm PySem.F.plainAttrs_list PySem.F.slot_list_append PySem.F.type_list_append mt_append (pe_dget hr.u1 (pv 0) pe_str (fun _ _ => rfl)) (pa_cons (pe_op op_fdivW (pv 2) (pv 1)) pa_nil)))) pss_nil)
      (pss_one (ps_ret (pe_op op_mod (pe_callTy call_int1 (by rfl) T.m_int (by decide +kernel) (pa_cons (pv 2) pa_nil)) (pv 1)))))) pss_nil)
    (pss_cons (ps_asg (pe_op op_add (pe_dget hr.u1 (pv 0) pe_str (fun _ _ => rfl)) pe_int) (pg_sub (pv 0) pe_str (set_dict hr.u1)))
    (pss_cons (ps_set (i := 3) sc_u_law_draw.nd rfl (.inl rfl) (pe_op op_mod (pe_callTy call_int1 (by rfl) T.m_int (by decide +kernel) (pa_cons (pe_op op_add (pe_dget hr.u1 (pv 0) pe_str (fun _ _ => rfl)) (pe_op op_mul pe_int (pe_dget hr.u1 (pv 0) pe_str (fun _ _ => rfl)))) pa_nil)) pe_int))
    (pss_cons (ps_set (i := 3) sc_u_law_draw.nd rfl (.inl rfl) (pe_op op_mod (pe_callTy call_int1 (by rfl) T.m_int (by decide +kernel) (pa_cons (pe_op op_add (pe_op op_add (pe_op op_mul (pv 3) (pv 3)) (pe_op op_mul pe_int (pe_dget hr.u1 (pv 0) pe_str (fun _ _ => rfl)))) pe_int) pa_nil)) pe_int))
    (pss_cons (ps_set (i := 3) sc_u_law_draw.nd rfl (.inl rfl) (pe_op op_mod (pe_callTy call_int1 (by rfl) T.m_int (by decide +kernel) (pa_cons (pe_op op_add (pe_op op_mul (pv 3) (pv 3)) (pe_op op_mul (pe_dget hr.u1 (pv 0) pe_str (fun _ _ => rfl)) pe_int)) pa_nil)) pe_int))
    (pss_one (ps_ret (pe_op op_mod (pe_callTy call_int1 (by rfl) T.m_int (by decide +kernel) (pa_cons (pe_op op_fdivW (pv 3) pe_int) pa_nil)) (pv 1)))))))))) fun D σ H h =>
    let ⟨_, _, h0, h1, hn, hl, ok, q⟩ := draw_ok h
    of_plain h0 h1 hn hl ok q
theorem f_u_law_pick (T : Tops K mg) : Fk P w K mg base 2 "_law_pick" ["deck", "row"] 2 w_u_law_pick := fk_of T.d_u_law_pick sc_u_law_pick rfl (by decide) fun f cdv A outer s H E pa le hr => d_sone (d_ret (d_sub1 (d_var (pv 1)) (d_fn ((f_u_law_draw T).mono (k := 1) (by first | decide | omega)) rfl rfl hr (by rfl) (d_cons (d_var (pv 0)) (d_cons (d_len (by rfl) T.m_len (d_cons (d_var (pv 1)) (d_nil))) (d_nil))))))
theorem f_u_law_row (T : Tops K mg) : Fk P w K mg base 2 "_law_row" ["deck", "many"] 4 w_u_law_row := fk_of T.d_u_law_row sc_u_law_row rfl (by decide) fun f cdv A outer s H E pa le hr => d_scons (d_par (i := 2) (j := 3) rfl sc_u_law_row.nd rfl rfl (by decide) rfl rfl (d_listR1 rfl (by rfl) T.m_list (by rfl) T.m_range (d_var (pv 1))) (d_lst (d_nil)) (by rfl)) (d_scons (d_while (passes_of rfl) (d_tne hr (d_var (pv 2)) (d_lst (d_nil))) (d_sone (d_drop (d_app (d_var (pv 3)) (d_cons (d_popI (d_var (pv 2)) (d_cons (d_fn ((f_u_law_draw T).mono (k := 1) (by first | decide | omega)) rfl rfl hr (by rfl) (d_cons (d_var (pv 0)) (d_cons (d_len (by rfl) T.m_len (d_cons (d_var (pv 2)) (d_nil))) (d_nil)))) (d_nil))) (d_nil)))))) (d_sone (d_ret (d_tuple (by rfl) T.m_tuple (d_cons (d_var (pv 3)) (d_nil))))))
theorem f_u_law_like (T : Tops K mg) : Fk P w K mg base 1 "_law_like" ["items"] 3 w_u_law_like := fk_of T.d_u_law_like sc_u_law_like rfl (by decide) fun f cdv A outer s H E pa le hr => d_scons (d_set (i := 1) sc_u_law_like.nd rfl (by first | exact .inl rfl | exact .inr rfl) (d_sortedY hr (by rfl) T.m_sorted (d_cons (d_var (pv 0)) (d_nil)))) (d_sone (d_ret (d_tuple (by rfl) T.m_tuple (d_cons (d_lc (own := [(("item" : Str), 2)]) rfl sc_u_law_like.nd (blk_id (N := ["items", "order", "item"]) (sc := defScope s_u_law_like) (by decide +kernel)) (d_iS (d_var (pv 0))) (fun _ _ _ _ _ => d_gNv (pg_name (i := 2) sc_u_law_like.nd rfl (.inl rfl))) (fun _ _ _ _ _ => d_tsN) (fun _ _ _ _ _ => d_index hr (d_var (pv 1)) (d_var (pv 2)))) (d_nil)))))
theorem f_u_law_fits (T : Tops K mg) : Fk P w K mg base 1 "_law_fits" ["row", "pattern", "chosen", "place"] 7 w_u_law_fits := fk_of T.d_u_law_fits sc_u_law_fits rfl (by decide) fun f cdv A outer s H E pa le hr => d_scons (d_set (i := 4) sc_u_law_fits.nd rfl (by first | exact .inl rfl | exact .inr rfl) (d_len (by rfl) T.m_len (d_cons (d_var (pv 2)) (d_nil)))) (d_scons (d_for (passes_of rfl) rfl (d_iE (by rfl) T.m_enumerate (d_cons (d_var (pv 2)) (d_nil))) (d_gTy rfl rfl (d_gsC (d_gN (pg_name (i := 5) sc_u_law_fits.nd rfl (by first | exact .inl rfl | exact .inr rfl))) (d_gsC (d_gN (pg_name (i := 6) sc_u_law_fits.nd rfl (by first | exact .inl rfl | exact .inr rfl))) (d_gsN)))) (d_sone (d_if (d_tne hr (d_ltA hr (d_sub1 (d_var (pv 0)) (d_var (pv 6))) (d_sub1 (d_var (pv 0)) (d_var (pv 3)))) (d_ltA hr (d_sub1 (d_var (pv 1)) (d_var (pv 5))) (d_sub1 (d_var (pv 1)) (d_var (pv 4))))) (d_sone (d_ret (d_c pe_bl rfl))) (d_snil)))) (d_sone (d_ret (d_c pe_bl rfl))))
theorem f_u_law_placing (T : Tops K mg) : Fk P w K mg base 2 "_law_placing" ["row", "pattern"] 6 w_u_law_placing := fk_of T.d_u_law_placing sc_u_law_placing rfl (by decide) fun f cdv A outer s H E pa le hr => d_scons (d_set (i := 2) sc_u_law_placing.nd rfl (by first | exact .inl rfl | exact .inr rfl) (d_lst (d_cons (d_tup (d_nil)) (d_nil)))) (d_scons (d_while (passes_of rfl) (d_tne hr (d_var (pv 2)) (d_lst (d_nil))) (d_scons (d_set (i := 3) sc_u_law_placing.nd rfl (by first | exact .inl rfl | exact .inr rfl) (d_pop0 (d_var (pv 2)))) (d_scons (d_if (d_teq hr (d_len (by rfl) T.m_len (d_cons (d_var (pv 3)) (d_nil))) (d_len (by rfl) T.m_len (d_cons (d_var (pv 1)) (d_nil)))) (d_sone (d_ret (d_var (pv 3)))) (d_snil)) (d_scons (d_set (i := 4) sc_u_law_placing.nd rfl (by first | exact .inl rfl | exact .inr rfl) (d_ifx (d_tne hr (d_var (pv 3)) (d_tup (d_nil))) (d_add (d_sub1 (d_var (pv 3)) (d_neg (d_c pe_int rfl))) (d_c pe_int rfl)) (d_c pe_int rfl))) (d_sone (d_for (passes_of rfl) rfl (d_iC (by rfl) T.m_range (d_cons (d_add (d_sub (d_len (by rfl) T.m_len (d_cons (d_var (pv 0)) (d_nil))) (d_len (by rfl) T.m_len (d_cons (d_var (pv 1)) (d_nil)))) (d_len (by rfl) T.m_len (d_cons (d_var (pv 3)) (d_nil)))) (d_cons (d_sub (d_var (pv 4)) (d_c pe_int rfl)) (d_cons (d_neg (d_c pe_int rfl)) (d_nil))))) (d_gy (d_gN (pg_name (i := 5) sc_u_law_placing.nd rfl (by first | exact .inl rfl | exact .inr rfl)))) (d_sone (d_if (d_test (d_fn ((f_u_law_fits T).mono (k := 1) (by first | decide | omega)) rfl rfl hr (by rfl) (d_cons (d_var (pv 0)) (d_cons (d_var (pv 1)) (d_cons (d_var (pv 3)) (d_cons (d_var (pv 5)) (d_nil))))))) (d_sone (d_drop (d_app (d_var (pv 2)) (d_cons (d_add (d_var (pv 3)) (d_tup (d_cons (d_var (pv 5)) (d_nil)))) (d_nil))))) (d_snil))))))))) (d_sone (d_ret (d_c pe_non rfl))))
theorem f_u_law_is_in (T : Tops K mg) : Fk P w K mg base 3 "_law_is_in" ["pattern", "row"] 2 w_u_law_is_in := fk_of T.d_u_law_is_in sc_u_law_is_in rfl (by decide) fun f cdv A outer s H E pa le hr => d_sone (d_ret (d_notN (d_fn ((f_u_law_placing T).mono (k := 2) (by first | decide | omega)) rfl rfl hr (by rfl) (d_cons (d_var (pv 1)) (d_cons (d_var (pv 0)) (d_nil)))) (d_c pe_non rfl)))
theorem f_u_law_bars (T : Tops K mg) : Fk P w K mg base 4 "_law_bars" ["deck", "longest"] 7 w_u_law_bars := fk_of T.d_u_law_bars sc_u_law_bars rfl (by decide) fun f cdv A outer s H E pa le hr => d_scons (d_set (i := 2) sc_u_law_bars.nd rfl (by first | exact .inl rfl | exact .inr rfl) (d_dnewT)) (d_scons (d_for (passes_of rfl) rfl (d_iR1 (by rfl) T.m_range (d_cons (d_add (d_c pe_int rfl) (d_fn ((f_u_law_draw T).mono (k := 3) (by first | decide | omega)) rfl rfl hr (by rfl) (d_cons (d_var (pv 0)) (d_cons (d_fn ((f_u_law_pick T).mono (k := 3) (by first | decide | omega)) rfl rfl hr (by rfl) (d_cons (d_var (pv 0)) (d_cons (d_lst (d_cons (d_c pe_int rfl) (d_cons (d_c pe_int rfl) (d_cons (d_c pe_int rfl) (d_cons (d_c pe_int rfl) (d_nil)))))) (d_nil)))) (d_nil))))) (d_nil))) (d_gy (d_gN (pg_name (i := 3) sc_u_law_bars.nd rfl (by first | exact .inl rfl | exact .inr rfl)))) (d_sone (d_asg (d_c pe_bl rfl) (d_gST hr (d_var (pv 2)) (d_fn ((f_u_law_row T).mono (k := 3) (by first | decide | omega)) rfl rfl hr (by rfl) (d_cons (d_var (pv 0)) (d_cons (d_fn ((f_u_law_pick T).mono (k := 3) (by first | decide | omega)) rfl rfl hr (by rfl) (d_cons (d_var (pv 0)) (d_cons (d_lst (d_cons (d_c pe_int rfl) (d_cons (d_c pe_int rfl) (d_cons (d_c pe_int rfl) (d_cons (d_c pe_int rfl) (d_cons (d_c pe_int rfl) (d_cons (d_var (pv 1)) (d_nil)))))))) (d_nil)))) (d_nil)))))))) (d_scons (d_set (i := 4) sc_u_law_bars.nd rfl (by first | exact .inl rfl | exact .inr rfl) (d_sortedT hr rfl (by rfl) T.m_sorted (d_cons (d_var (pv 2)) (d_nil)))) (d_sone (d_ret (d_tuple (by rfl) T.m_tuple (d_cons (d_lc (own := [(("row" : Str), 5)]) rfl sc_u_law_bars.nd (blk_id (N := ["deck", "longest", "found", "turn", "rows", "row", "own"]) (sc := defScope s_u_law_bars) (by decide +kernel)) (d_iS (d_var (pv 4))) (fun _ _ _ _ _ => d_gNv (pg_name (i := 5) sc_u_law_bars.nd rfl (by first | exact .inl rfl | exact .inr rfl))) (fun _ _ _ _ _ => d_ts1 (d_teq hr (d_lc (own := [(("own" : Str), 6)]) rfl sc_u_law_bars.nd (by kernel_rfl) (d_iS (d_var (pv 4))) (fun _ _ _ _ _ => d_gNv (pg_name (i := 6) sc_u_law_bars.nd rfl (.inl rfl))) (fun _ _ _ _ _ => d_ts1 (d_w (d_and (d_tne hr (d_var (pv 6)) (d_var (pv 5))) (d_and1 (d_test (d_fn ((f_u_law_is_in T).mono (k := 3) (by first | decide | omega)) rfl rfl hr (by rfl) (d_cons (d_var (pv 6)) (d_cons (d_var (pv 5)) (d_nil))))))))) (fun _ _ _ _ _ => d_c pe_int rfl)) (d_lst (d_nil)))) (fun _ _ _ _ _ => d_var (pv 5))) (d_nil)))))))
theorem f_u_law_is_member (T : Tops K mg) : Fk P w K mg base 4 "_law_is_member" ["bars", "row"] 3 w_u_law_is_member := fk_of T.d_u_law_is_member sc_u_law_is_member rfl (by decide) fun f cdv A outer s H E pa le hr => d_sone (d_ret (d_eq hr (d_lc (own := [(("bar" : Str), 2)]) rfl sc_u_law_is_member.nd (blk_id (N := ["bars", "row", "bar"]) (sc := defScope s_u_law_is_member) (by decide +kernel)) (d_iS (d_var (pv 0))) (fun _ _ _ _ _ => d_gNv (pg_name (i := 2) sc_u_law_is_member.nd rfl (.inl rfl))) (fun _ _ _ _ _ => d_ts1 (d_test (d_fn ((f_u_law_is_in T).mono (k := 3) (by first | decide | omega)) rfl rfl hr (by rfl) (d_cons (d_var (pv 2)) (d_cons (d_var (pv 1)) (d_nil)))))) (fun _ _ _ _ _ => d_c pe_int rfl)) (d_lst (d_nil))))
theorem f_u_law_least_rows (T : Tops K mg) : Fk P w K mg base 4 "_law_least_rows" ["rows"] 4 w_u_law_least_rows := fk_of T.d_u_law_least_rows sc_u_law_least_rows rfl (by decide) fun f cdv A outer s H E pa le hr => d_scons (d_set (i := 1) sc_u_law_least_rows.nd rfl (by first | exact .inl rfl | exact .inr rfl) (d_sortSet hr rfl (by rfl) T.m_sorted (by rfl) T.m_set (d_var (pv 0)))) (d_sone (d_ret (d_tuple (by rfl) T.m_tuple (d_cons (d_lc (own := [(("row" : Str), 2)]) rfl sc_u_law_least_rows.nd (blk_id (N := ["rows", "some", "row", "own"]) (sc := defScope s_u_law_least_rows) (by decide +kernel)) (d_iS (d_var (pv 1))) (fun _ _ _ _ _ => d_gNv (pg_name (i := 2) sc_u_law_least_rows.nd rfl (by first | exact .inl rfl | exact .inr rfl))) (fun _ _ _ _ _ => d_ts1 (d_teq hr (d_lc (own := [(("own" : Str), 3)]) rfl sc_u_law_least_rows.nd (by kernel_rfl) (d_iS (d_var (pv 1))) (fun _ _ _ _ _ => d_gNv (pg_name (i := 3) sc_u_law_least_rows.nd rfl (.inl rfl))) (fun _ _ _ _ _ => d_ts1 (d_w (d_and (d_tltA hr (d_len (by rfl) T.m_len (d_cons (d_var (pv 3)) (d_nil))) (d_len (by rfl) T.m_len (d_cons (d_var (pv 2)) (d_nil)))) (d_and1 (d_test (d_fn ((f_u_law_is_in T).mono (k := 3) (by first | decide | omega)) rfl rfl hr (by rfl) (d_cons (d_var (pv 3)) (d_cons (d_var (pv 2)) (d_nil))))))))) (fun _ _ _ _ _ => d_c pe_int rfl)) (d_lst (d_nil)))) (fun _ _ _ _ _ => d_var (pv 2))) (d_nil)))))
theorem f_u_law_cut (T : Tops K mg) : Fk P w K mg base 1 "_law_cut" ["bars", "is_skew"] 7 w_u_law_cut := fk_of T.d_u_law_cut sc_u_law_cut rfl (by decide) fun f cdv A outer s H E pa le hr => d_scons (d_for (passes_of rfl) rfl (d_iE (by rfl) T.m_enumerate (d_cons (d_var (pv 0)) (d_nil))) (d_gTy rfl rfl (d_gsC (d_gN (pg_name (i := 2) sc_u_law_cut.nd rfl (by first | exact .inl rfl | exact .inr rfl))) (d_gsC (d_gN (pg_name (i := 3) sc_u_law_cut.nd rfl (by first | exact .inl rfl | exact .inr rfl))) (d_gsN)))) (d_sone (d_for (passes_of rfl) rfl (d_iR2 (by rfl) T.m_range (d_cons (d_c pe_int rfl) (d_cons (d_len (by rfl) T.m_len (d_cons (d_var (pv 3)) (d_nil))) (d_nil)))) (d_gy (d_gN (pg_name (i := 4) sc_u_law_cut.nd rfl (by first | exact .inl rfl | exact .inr rfl)))) (d_scons (d_asg (d_ifx (d_test (d_var (pv 1))) (d_tup (d_cons (d_slice (d_var (pv 3)) (d_oS (d_var (pv 4))) (d_oN)) (d_cons (d_slice (d_var (pv 3)) (d_oN) (d_oS (d_var (pv 4)))) (d_nil)))) (d_tup (d_cons (d_slice (d_var (pv 3)) (d_oN) (d_oS (d_var (pv 4)))) (d_cons (d_slice (d_var (pv 3)) (d_oS (d_var (pv 4))) (d_oN)) (d_nil))))) (d_gQ rfl rfl (d_gsC (d_gN (pg_name (i := 5) sc_u_law_cut.nd rfl (by first | exact .inl rfl | exact .inr rfl))) (d_gsC (d_gN (pg_name (i := 6) sc_u_law_cut.nd rfl (by first | exact .inl rfl | exact .inr rfl))) (d_gsN))))) (d_sone (d_if (d_tltA hr (d_maxX hr rfl (by rfl) T.m_max (d_cons (d_var (pv 5)) (d_nil))) (d_minX hr rfl (by rfl) T.m_min (d_cons (d_var (pv 6)) (d_nil)))) (d_sone (d_ret (d_tup (d_cons (d_var (pv 2)) (d_cons (d_var (pv 4)) (d_nil)))))) (d_snil))))))) (d_sone (d_ret (d_c pe_non rfl)))
theorem f_u_law_block (T : Tops K mg) : Fk P w K mg base 1 "_law_block" ["bars"] 5 w_u_law_block := fk_of T.d_u_law_block sc_u_law_block rfl (by decide) fun f cdv A outer s H E pa le hr => d_scons (d_for (passes_of rfl) rfl (d_iE (by rfl) T.m_enumerate (d_cons (d_var (pv 0)) (d_nil))) (d_gTy rfl rfl (d_gsC (d_gN (pg_name (i := 1) sc_u_law_block.nd rfl (by first | exact .inl rfl | exact .inr rfl))) (d_gsC (d_gN (pg_name (i := 2) sc_u_law_block.nd rfl (by first | exact .inl rfl | exact .inr rfl))) (d_gsN)))) (d_sone (d_for (passes_of rfl) rfl (d_iR1 (by rfl) T.m_range (d_cons (d_len (by rfl) T.m_len (d_cons (d_var (pv 2)) (d_nil))) (d_nil))) (d_gy (d_gN (pg_name (i := 3) sc_u_law_block.nd rfl (by first | exact .inl rfl | exact .inr rfl)))) (d_sone (d_for (passes_of rfl) rfl (d_iR2 (by rfl) T.m_range (d_cons (d_add (d_var (pv 3)) (d_c pe_int rfl)) (d_cons (d_add (d_len (by rfl) T.m_len (d_cons (d_var (pv 2)) (d_nil))) (d_c pe_int rfl)) (d_nil)))) (d_gy (d_gN (pg_name (i := 4) sc_u_law_block.nd rfl (by first | exact .inl rfl | exact .inr rfl)))) (d_sone (d_if (d_w (d_and (d_tltA hr (d_sub (d_var (pv 4)) (d_var (pv 3))) (d_len (by rfl) T.m_len (d_cons (d_var (pv 2)) (d_nil)))) (d_and1 (d_teq hr (d_sub (d_maxX hr rfl (by rfl) T.m_max (d_cons (d_slice (d_var (pv 2)) (d_oS (d_var (pv 3))) (d_oS (d_var (pv 4)))) (d_nil))) (d_minX hr rfl (by rfl) T.m_min (d_cons (d_slice (d_var (pv 2)) (d_oS (d_var (pv 3))) (d_oS (d_var (pv 4)))) (d_nil)))) (d_sub (d_sub (d_var (pv 4)) (d_var (pv 3))) (d_c pe_int rfl)))))) (d_sone (d_ret (d_tup (d_cons (d_var (pv 1)) (d_cons (d_tup (d_cons (d_var (pv 3)) (d_cons (d_var (pv 4)) (d_nil)))) (d_nil)))))) (d_snil)))))))) (d_sone (d_ret (d_c pe_non rfl)))
theorem f_u_law_put (T : Tops K mg) : Fk P w K mg base 1 "_law_put" ["one", "other", "is_skew"] 4 w_u_law_put := fk_of T.d_u_law_put sc_u_law_put rfl (by decide) fun f cdv A outer s H E pa le hr => d_scons (d_if (d_test (d_var (pv 2))) (d_sone (d_ret (d_add (d_tuple (by rfl) T.m_tuple (d_cons (d_lc (own := [(("item" : Str), 3)]) rfl sc_u_law_put.nd (blk_id (N := ["one", "other", "is_skew", "item"]) (sc := defScope s_u_law_put) (by decide +kernel)) (d_iS (d_var (pv 0))) (fun _ _ _ _ _ => d_gNv (pg_name (i := 3) sc_u_law_put.nd rfl (.inl rfl))) (fun _ _ _ _ _ => d_tsN) (fun _ _ _ _ _ => d_add (d_var (pv 3)) (d_len (by rfl) T.m_len (d_cons (d_var (pv 1)) (d_nil))))) (d_nil))) (d_var (pv 1))))) (d_snil)) (d_sone (d_ret (d_add (d_var (pv 0)) (d_tuple (by rfl) T.m_tuple (d_cons (d_lc (own := [(("item" : Str), 3)]) rfl sc_u_law_put.nd (blk_id (N := ["one", "other", "is_skew", "item"]) (sc := defScope s_u_law_put) (by decide +kernel)) (d_iS (d_var (pv 1))) (fun _ _ _ _ _ => d_gNv (pg_name (i := 3) sc_u_law_put.nd rfl (.inl rfl))) (fun _ _ _ _ _ => d_tsN) (fun _ _ _ _ _ => d_add (d_var (pv 3)) (d_len (by rfl) T.m_len (d_cons (d_var (pv 0)) (d_nil))))) (d_nil))))))
theorem f_u_law_filled (T : Tops K mg) : Fk P w K mg base 1 "_law_filled" ["row", "parts"] 7 w_u_law_filled := fk_of T.d_u_law_filled sc_u_law_filled rfl (by decide) fun f cdv A outer s H E pa le hr => d_scons (d_set (i := 2) sc_u_law_filled.nd rfl (by first | exact .inl rfl | exact .inr rfl) (d_lc (own := [(("item" : Str), 3)]) rfl sc_u_law_filled.nd (blk_id (N := ["row", "parts", "sizes", "item", "found", "place", "own"]) (sc := defScope s_u_law_filled) (by decide +kernel)) (d_iR1 (by rfl) T.m_range (d_cons (d_len (by rfl) T.m_len (d_cons (d_var (pv 0)) (d_nil))) (d_nil))) (fun _ _ _ _ _ => d_gNv (pg_name (i := 3) sc_u_law_filled.nd rfl (.inl rfl))) (fun _ _ _ _ _ => d_tsN) (fun _ _ _ _ _ => d_len (by rfl) T.m_len (d_cons (d_sub1 (d_var (pv 1)) (d_index hr (d_var (pv 0)) (d_var (pv 3)))) (d_nil))))) (d_scons (d_set (i := 4) sc_u_law_filled.nd rfl (by first | exact .inl rfl | exact .inr rfl) (d_lst (d_nil))) (d_scons (d_for (passes_of rfl) rfl (d_iE (by rfl) T.m_enumerate (d_cons (d_var (pv 0)) (d_nil))) (d_gTy rfl rfl (d_gsC (d_gN (pg_name (i := 5) sc_u_law_filled.nd rfl (by first | exact .inl rfl | exact .inr rfl))) (d_gsC (d_gN (pg_name (i := 3) sc_u_law_filled.nd rfl (by first | exact .inl rfl | exact .inr rfl))) (d_gsN)))) (d_sone (d_drop (d_ext (d_var (pv 4)) (d_cons (d_lc (own := [(("own" : Str), 6)]) rfl sc_u_law_filled.nd (blk_id (N := ["row", "parts", "sizes", "item", "found", "place", "own"]) (sc := defScope s_u_law_filled) (by decide +kernel)) (d_iS (d_sub1 (d_var (pv 1)) (d_var (pv 5)))) (fun _ _ _ _ _ => d_gNv (pg_name (i := 6) sc_u_law_filled.nd rfl (.inl rfl))) (fun _ _ _ _ _ => d_tsN) (fun _ _ _ _ _ => d_add (d_sum rfl (by rfl) T.m_sum (d_cons (d_slice (d_var (pv 2)) (d_oN) (d_oS (d_var (pv 3)))) (d_nil))) (d_var (pv 6)))) (d_nil)))))) (d_sone (d_ret (d_tuple (by rfl) T.m_tuple (d_cons (d_var (pv 4)) (d_nil)))))))
theorem f_u_law_member (T : Tops K mg) : Fk P w K mg base 5 "_law_member" ["deck", "bars", "most"] 8 w_u_law_member := fk_of T.d_u_law_member sc_u_law_member rfl (by decide) fun f cdv A outer s H E pa le hr => d_scons (d_set (i := 3) sc_u_law_member.nd rfl (by first | exact .inl rfl | exact .inr rfl) (d_fn ((f_u_law_row T).mono (k := 4) (by first | decide | omega)) rfl rfl hr (by rfl) (d_cons (d_var (pv 0)) (d_cons (d_fn ((f_u_law_draw T).mono (k := 4) (by first | decide | omega)) rfl rfl hr (by rfl) (d_cons (d_var (pv 0)) (d_cons (d_add (d_var (pv 2)) (d_c pe_int rfl)) (d_nil)))) (d_nil))))) (d_scons (d_while (passes_of rfl) (d_not (d_test (d_fn ((f_u_law_is_member T).mono (k := 4) (by first | decide | omega)) rfl rfl hr (by rfl) (d_cons (d_var (pv 1)) (d_cons (d_var (pv 3)) (d_nil)))))) (d_scons (d_setLc (i := 4) (own := [(("bar" : Str), 5)]) rfl sc_u_law_member.nd rfl rfl (sw_true rfl rfl rfl rfl) (blk_id (N := ["deck", "bars", "most", "row", "places", "bar", "place", "own"]) (sc := defScope s_u_law_member) (by decide +kernel)) (d_iS (d_var (pv 1))) (fun _ _ _ _ _ => d_gNv (pg_name (i := 5) sc_u_law_member.nd rfl (.inl rfl))) (fun _ _ _ _ _ => d_tsN) (fun _ _ _ _ _ => d_fn ((f_u_law_placing T).mono (k := 4) (by first | decide | omega)) rfl rfl hr (by rfl) (d_cons (d_var (pv 3)) (d_cons (d_var (pv 5)) (d_nil))))) (d_scons (d_set (i := 6) sc_u_law_member.nd rfl (by first | exact .inl rfl | exact .inr rfl) (d_fn ((f_u_law_pick T).mono (k := 4) (by first | decide | omega)) rfl rfl hr (by rfl) (d_cons (d_var (pv 0)) (d_cons (d_sub1 (d_lc (own := [(("own" : Str), 7)]) rfl sc_u_law_member.nd (blk_id (N := ["deck", "bars", "most", "row", "places", "bar", "place", "own"]) (sc := defScope s_u_law_member) (by decide +kernel)) (d_iS (d_var (pv 4))) (fun _ _ _ _ _ => d_gNv (pg_name (i := 7) sc_u_law_member.nd rfl (.inl rfl))) (fun _ _ _ _ _ => d_ts1 (d_tnotN (d_var (pv 7)) (d_c pe_non rfl))) (fun _ _ _ _ _ => d_var (pv 7))) (d_c pe_int rfl)) (d_nil))))) (d_sone (d_set (i := 3) sc_u_law_member.nd rfl (by first | exact .inl rfl | exact .inr rfl) (d_fn ((f_u_law_like T).mono (k := 4) (by first | decide | omega)) rfl rfl hr (by rfl) (d_cons (d_add (d_slice (d_var (pv 3)) (d_oN) (d_oS (d_var (pv 6)))) (d_slice (d_var (pv 3)) (d_oS (d_add (d_var (pv 6)) (d_c pe_int rfl))) (d_oN))) (d_nil)))))))) (d_sone (d_ret (d_var (pv 3)))))
theorem f_u_law_are_closed (T : Tops K mg) : Fk P w K mg base 11 "_law_are_closed" ["deck", "bars", "dues"] 16 w_u_law_are_closed := fk_of T.d_u_law_are_closed sc_u_law_are_closed rfl (by decide) fun f cdv A outer s H E pa le hr => d_scons (d_par (i := 3) (j := 4) rfl sc_u_law_are_closed.nd rfl rfl (by decide) rfl rfl (d_fn ((f_u_law_member T).mono (k := 10) (by first | decide | omega)) rfl rfl hr (by rfl) (d_cons (d_var (pv 0)) (d_cons (d_var (pv 1)) (d_cons (d_c pe_int rfl) (d_nil))))) (d_fn ((f_u_law_member T).mono (k := 10) (by first | decide | omega)) rfl rfl hr (by rfl) (d_cons (d_var (pv 0)) (d_cons (d_var (pv 1)) (d_cons (d_c pe_int rfl) (d_nil))))) (by rfl)) (d_scons (d_for (passes_of rfl) rfl (d_iS (d_tup (d_cons (d_c pe_int rfl) (d_cons (d_c pe_int rfl) (d_nil))))) (d_gy (d_gN (pg_name (i := 5) sc_u_law_are_closed.nd rfl (by first | exact .inl rfl | exact .inr rfl)))) (d_scons (d_if (d_w (d_and (d_tisN (d_sub1 (d_var (pv 2)) (d_var (pv 5))) (d_c pe_non rfl)) (d_and1 (d_tnotN (d_fn ((f_barred_by T).mono (k := 10) (by first | decide | omega)) rfl rfl hr (by rfl) (d_cons (d_var (pv 1)) (d_cons (d_fn ((f_u_law_put T).mono (k := 10) (by first | decide | omega)) rfl rfl hr (by rfl) (d_cons (d_var (pv 3)) (d_cons (d_var (pv 4)) (d_cons (d_eq hr (d_var (pv 5)) (d_c pe_int rfl)) (d_nil))))) (d_nil)))) (d_c pe_non rfl))))) (d_sone (d_ret (d_c pe_bl rfl))) (d_snil)) (d_sone (d_if (d_tnotN (d_sub1 (d_var (pv 2)) (d_var (pv 5))) (d_c pe_non rfl)) (d_scons (d_par (i := 6) (j := 7) rfl sc_u_law_are_closed.nd rfl rfl (by decide) rfl rfl (d_sub1 (d_var (pv 1)) (d_sub1 (d_sub1 (d_var (pv 2)) (d_var (pv 5))) (d_c pe_int rfl))) (d_sub1 (d_sub1 (d_var (pv 2)) (d_var (pv 5))) (d_c pe_int rfl)) (by rfl)) (d_scons (d_set (i := 8) sc_u_law_are_closed.nd rfl (by first | exact .inl rfl | exact .inr rfl) (d_lst (d_cons (d_fn ((f_u_law_like T).mono (k := 10) (by first | decide | omega)) rfl rfl hr (by rfl) (d_cons (d_slice (d_var (pv 6)) (d_oN) (d_oS (d_var (pv 7)))) (d_nil))) (d_cons (d_fn ((f_u_law_like T).mono (k := 10) (by first | decide | omega)) rfl rfl hr (by rfl) (d_cons (d_slice (d_var (pv 6)) (d_oS (d_var (pv 7))) (d_oN)) (d_nil))) (d_nil))))) (d_sone (d_if (d_w (d_or (d_tne hr (d_lc (own := [(("own" : Str), 9)]) rfl sc_u_law_are_closed.nd (blk_id (N := ["deck", "bars", "dues", "one", "other", "k", "bar", "cut", "parts", "own", "row", "place", "i", "j", "outer", "inner"]) (sc := defScope s_u_law_are_closed) (by decide +kernel)) (d_iS (d_var (pv 8))) (fun _ _ _ _ _ => d_gNv (pg_name (i := 9) sc_u_law_are_closed.nd rfl (.inl rfl))) (fun _ _ _ _ _ => d_tsN) (fun _ _ _ _ _ => d_fn ((f_barred_by T).mono (k := 10) (by first | decide | omega)) rfl rfl hr (by rfl) (d_cons (d_var (pv 1)) (d_cons (d_var (pv 9)) (d_nil))))) (d_lst (d_cons (d_c pe_non rfl) (d_cons (d_c pe_non rfl) (d_nil))))) (d_or1 (d_tne hr (d_fn ((f_u_law_put T).mono (k := 10) (by first | decide | omega)) rfl rfl hr (by rfl) (d_cons (d_sub1 (d_var (pv 8)) (d_c pe_int rfl)) (d_cons (d_sub1 (d_var (pv 8)) (d_c pe_int rfl)) (d_cons (d_eq hr (d_var (pv 5)) (d_c pe_int rfl)) (d_nil))))) (d_var (pv 6)))))) (d_sone (d_ret (d_c pe_bl rfl))) (d_snil))))) (d_snil))))) (d_scons (d_set (i := 10) sc_u_law_are_closed.nd rfl (by first | exact .inl rfl | exact .inr rfl) (d_fn ((f_u_law_member T).mono (k := 10) (by first | decide | omega)) rfl rfl hr (by rfl) (d_cons (d_var (pv 0)) (d_cons (d_var (pv 1)) (d_cons (d_c pe_int rfl) (d_nil)))))) (d_scons (d_if (d_tisN (d_sub1 (d_var (pv 2)) (d_c pe_int rfl)) (d_c pe_non rfl)) (d_scons (d_set (i := 9) sc_u_law_are_closed.nd rfl (by first | exact .inl rfl | exact .inr rfl) (d_fn ((f_u_law_filled T).mono (k := 10) (by first | decide | omega)) rfl rfl hr (by rfl) (d_cons (d_var (pv 10)) (d_cons (d_lc (own := [(("place" : Str), 11)]) rfl sc_u_law_are_closed.nd (blk_id (N := ["deck", "bars", "dues", "one", "other", "k", "bar", "cut", "parts", "own", "row", "place", "i", "j", "outer", "inner"]) (sc := defScope s_u_law_are_closed) (by decide +kernel)) (d_iS (d_var (pv 10))) (fun _ _ _ _ _ => d_gNv (pg_name (i := 11) sc_u_law_are_closed.nd rfl (.inl rfl))) (fun _ _ _ _ _ => d_tsN) (fun _ _ _ _ _ => d_fn ((f_u_law_member T).mono (k := 10) (by first | decide | omega)) rfl rfl hr (by rfl) (d_cons (d_var (pv 0)) (d_cons (d_var (pv 1)) (d_cons (d_c pe_int rfl) (d_nil)))))) (d_nil))))) (d_sone (d_ret (d_isN (d_fn ((f_barred_by T).mono (k := 10) (by first | decide | omega)) rfl rfl hr (by rfl) (d_cons (d_var (pv 1)) (d_cons (d_var (pv 9)) (d_nil)))) (d_c pe_non rfl))))) (d_snil)) (d_scons (d_asg (d_tup (d_cons (d_sub1 (d_var (pv 1)) (d_sub1 (d_sub1 (d_var (pv 2)) (d_c pe_int rfl)) (d_c pe_int rfl))) (d_cons (d_sub1 (d_sub1 (d_var (pv 2)) (d_c pe_int rfl)) (d_c pe_int rfl)) (d_nil)))) (d_gQ rfl rfl (d_gsC (d_gN (pg_name (i := 6) sc_u_law_are_closed.nd rfl (by first | exact .inl rfl | exact .inr rfl))) (d_gsC (d_gQ rfl rfl (d_gsC (d_gN (pg_name (i := 12) sc_u_law_are_closed.nd rfl (by first | exact .inl rfl | exact .inr rfl))) (d_gsC (d_gN (pg_name (i := 13) sc_u_law_are_closed.nd rfl (by first | exact .inl rfl | exact .inr rfl))) (d_gsN)))) (d_gsN))))) (d_scons (d_asg (d_tup (d_cons (d_fn ((f_u_law_like T).mono (k := 10) (by first | decide | omega)) rfl rfl hr (by rfl) (d_cons (d_add (d_slice (d_var (pv 6)) (d_oN) (d_oS (d_add (d_var (pv 12)) (d_c pe_int rfl)))) (d_slice (d_var (pv 6)) (d_oS (d_var (pv 13))) (d_oN))) (d_nil))) (d_cons (d_fn ((f_u_law_like T).mono (k := 10) (by first | decide | omega)) rfl rfl hr (by rfl) (d_cons (d_slice (d_var (pv 6)) (d_oS (d_var (pv 12))) (d_oS (d_var (pv 13)))) (d_nil))) (d_nil)))) (d_gQ rfl rfl (d_gsC (d_gN (pg_name (i := 14) sc_u_law_are_closed.nd rfl (by first | exact .inl rfl | exact .inr rfl))) (d_gsC (d_gN (pg_name (i := 15) sc_u_law_are_closed.nd rfl (by first | exact .inl rfl | exact .inr rfl))) (d_gsN))))) (d_scons (d_setLc (i := 8) (own := [(("place" : Str), 11)]) rfl sc_u_law_are_closed.nd rfl rfl (sw_true rfl rfl rfl rfl) (blk_id (N := ["deck", "bars", "dues", "one", "other", "k", "bar", "cut", "parts", "own", "row", "place", "i", "j", "outer", "inner"]) (sc := defScope s_u_law_are_closed) (by decide +kernel)) (d_iR1 (by rfl) T.m_range (d_cons (d_len (by rfl) T.m_len (d_cons (d_var (pv 14)) (d_nil))) (d_nil))) (fun _ _ _ _ _ => d_gNv (pg_name (i := 11) sc_u_law_are_closed.nd rfl (.inl rfl))) (fun _ _ _ _ _ => d_tsN) (fun _ _ _ _ _ => d_ifx (d_teq hr (d_var (pv 11)) (d_var (pv 12))) (d_var (pv 15)) (d_tup (d_cons (d_c pe_int rfl) (d_nil))))) (d_sone (d_ret (d_andV (d_eq hr (d_lst (d_cons (d_fn ((f_barred_by T).mono (k := 10) (by first | decide | omega)) rfl rfl hr (by rfl) (d_cons (d_var (pv 1)) (d_cons (d_var (pv 14)) (d_nil)))) (d_cons (d_fn ((f_barred_by T).mono (k := 10) (by first | decide | omega)) rfl rfl hr (by rfl) (d_cons (d_var (pv 1)) (d_cons (d_var (pv 15)) (d_nil)))) (d_nil)))) (d_lst (d_cons (d_c pe_non rfl) (d_cons (d_c pe_non rfl) (d_nil))))) (d_oneV (d_eq hr (d_fn ((f_u_law_filled T).mono (k := 10) (by first | decide | omega)) rfl rfl hr (by rfl) (d_cons (d_var (pv 14)) (d_cons (d_var (pv 8)) (d_nil)))) (d_var (pv 6)))))))))))))
theorem f_law {f : Addr} {fd : FuncData} (F : Fun K "law" "law" s_law f fd) (T : Tops K mg)
    (m0 : ∀ ns : List Int, ns.length ≤ 63 → w_deck0 ⟨fun ρ => ρ.length = 4 ∧ ρ[0]? = some (.im (scrD ns)) ∧ ∃ m : Int, 0 ≤ m ∧ ρ[1]? = some (.own false (.d [(.inr "great", .list []), (.inr "mixed", .int m), (.inr "turns", .int 0)])), fun _ _ => False, fun _ => False, fun _ => False, fun _ => False⟩ (.im (scrD ns) :: List.replicate 3 .no))
    (m1 : w_law lawP (potEnv 10 1)) : FnG P w K mg base CX0 12 f fd ["script"] (spLaw K) :=
  let ⟨fD, fdD, FD, hmD, hkD, hbD⟩ := f_u_law_deck (P := P) (w := w) (base := base) T m0
  law_fnD F sc_law (by decide) (by decide) rfl (fun f cdv A outer s H E hr => ps_set (i := 1) sc_law.nd rfl (by first | exact .inl rfl | exact .inr rfl) (pe_callG FD (hr.mono (by decide)) (by rfl) hmD hkD hbD .nil (E := E0) pass0 (pa_cons (pv 0) pa_nil)))
    (fun f cdv A outer s H E p hr => d_scons (d_for (passes_of rfl) rfl (d_iR1 (by rfl) T.m_range (d_cons (d_c pe_int rfl) (d_nil))) (d_gy (d_gN (pg_name (i := 2) sc_law.nd rfl (by first | exact .inl rfl | exact .inr rfl)))) (d_scons (d_set (i := 3) sc_law.nd rfl (by first | exact .inl rfl | exact .inr rfl) (d_fn ((f_u_law_bars T).mono (k := 11) (by first | decide | omega)) rfl rfl hr (by rfl) (d_cons (d_var (pv 1)) (d_cons (d_c pe_int rfl) (d_nil))))) (d_scons (d_if (d_teq hr (d_fn ((f_u_law_draw T).mono (k := 11) (by first | decide | omega)) rfl rfl hr (by rfl) (d_cons (d_var (pv 1)) (d_cons (d_c pe_int rfl) (d_nil)))) (d_c pe_int rfl)) (d_scons (d_set (i := 4) sc_law.nd rfl (by first | exact .inl rfl | exact .inr rfl) (d_lst (d_cons (d_tup (d_cons (d_c pe_int rfl) (d_cons (d_c pe_int rfl) (d_cons (d_c pe_int rfl) (d_cons (d_c pe_int rfl) (d_nil)))))) (d_cons (d_tup (d_cons (d_c pe_int rfl) (d_cons (d_c pe_int rfl) (d_cons (d_c pe_int rfl) (d_cons (d_c pe_int rfl) (d_nil)))))) (d_cons (d_tup (d_cons (d_c pe_int rfl) (d_cons (d_c pe_int rfl) (d_cons (d_c pe_int rfl) (d_cons (d_c pe_int rfl) (d_cons (d_c pe_int rfl) (d_nil))))))) (d_cons (d_tup (d_cons (d_c pe_int rfl) (d_cons (d_c pe_int rfl) (d_cons (d_c pe_int rfl) (d_cons (d_c pe_int rfl) (d_cons (d_c pe_int rfl) (d_nil))))))) (d_cons (d_tup (d_cons (d_c pe_int rfl) (d_cons (d_c pe_int rfl) (d_cons (d_c pe_int rfl) (d_nil))))) (d_cons (d_tup (d_cons (d_c pe_int rfl) (d_cons (d_c pe_int rfl) (d_cons (d_c pe_int rfl) (d_cons (d_c pe_int rfl) (d_cons (d_c pe_int rfl) (d_nil))))))) (d_nil))))))))) (d_sone (d_set (i := 3) sc_law.nd rfl (by first | exact .inl rfl | exact .inr rfl) (d_fn ((f_u_law_least_rows T).mono (k := 11) (by first | decide | omega)) rfl rfl hr (by rfl) (d_cons (d_lc (own := [(("again" : Str), 5)]) rfl sc_law.nd (blk_id (N := ["script", "deck", "turn", "bars", "rows", "again", "kept", "dues", "told", "named"]) (sc := defScope s_law) (by decide +kernel)) (d_iR1 (by rfl) T.m_range (d_cons (d_c pe_int rfl) (d_nil))) (fun _ _ _ _ _ => d_gNv (pg_name (i := 5) sc_law.nd rfl (.inl rfl))) (fun _ _ _ _ _ => d_tsN) (fun _ _ _ _ _ => d_fn ((f_u_law_pick T).mono (k := 11) (by first | decide | omega)) rfl rfl hr (by rfl) (d_cons (d_var (pv 1)) (d_cons (d_var (pv 4)) (d_nil))))) (d_nil)))))) (d_snil)) (d_scons (d_if (d_teq hr (d_fn ((f_u_law_draw T).mono (k := 11) (by first | decide | omega)) rfl rfl hr (by rfl) (d_cons (d_var (pv 1)) (d_cons (d_c pe_int rfl) (d_nil)))) (d_c pe_int rfl)) (d_sone (d_set (i := 3) sc_law.nd rfl (by first | exact .inl rfl | exact .inr rfl) (d_fn ((f_u_law_pick T).mono (k := 11) (by first | decide | omega)) rfl rfl hr (by rfl) (d_cons (d_var (pv 1)) (d_cons (d_lst (d_cons (d_tup (d_cons (d_tup (d_cons (d_c pe_int rfl) (d_nil))) (d_nil))) (d_cons (d_tup (d_cons (d_tup (d_cons (d_c pe_int rfl) (d_cons (d_c pe_int rfl) (d_nil)))) (d_nil))) (d_cons (d_tup (d_cons (d_tup (d_cons (d_c pe_int rfl) (d_cons (d_c pe_int rfl) (d_nil)))) (d_nil))) (d_cons (d_tup (d_cons (d_tup (d_cons (d_c pe_int rfl) (d_cons (d_c pe_int rfl) (d_nil)))) (d_cons (d_tup (d_cons (d_c pe_int rfl) (d_cons (d_c pe_int rfl) (d_nil)))) (d_nil)))) (d_nil)))))) (d_nil)))))) (d_snil)) (d_scons (d_par (i := 6) (j := 7) rfl sc_law.nd rfl rfl (by decide) rfl rfl (d_repr hr (by rfl) T.m_repr (d_cons (d_var (pv 3)) (d_nil))) (d_lst (d_cons (d_fn ((f_u_law_cut T).mono (k := 11) (by first | decide | omega)) rfl rfl hr (by rfl) (d_cons (d_var (pv 3)) (d_cons (d_c pe_bl rfl) (d_nil)))) (d_cons (d_fn ((f_u_law_cut T).mono (k := 11) (by first | decide | omega)) rfl rfl hr (by rfl) (d_cons (d_var (pv 3)) (d_cons (d_c pe_bl rfl) (d_nil)))) (d_cons (d_fn ((f_u_law_block T).mono (k := 11) (by first | decide | omega)) rfl rfl hr (by rfl) (d_cons (d_var (pv 3)) (d_nil))) (d_nil))))) (by rfl)) (d_scons (d_set (i := 8) sc_law.nd rfl (by first | exact .inl rfl | exact .inr rfl) (d_lst (d_cons (d_fn ((f_sum_bar T).mono (k := 11) (by first | decide | omega)) rfl rfl hr (by rfl) (d_cons (d_var (pv 3)) (d_nil))) (d_cons (d_fn ((f_skew_bar T).mono (k := 11) (by first | decide | omega)) rfl rfl hr (by rfl) (d_cons (d_var (pv 3)) (d_nil))) (d_cons (d_fn ((f_block_bar T).mono (k := 11) (by first | decide | omega)) rfl rfl hr (by rfl) (d_cons (d_var (pv 3)) (d_nil))) (d_nil)))))) (d_scons (d_set (i := 9) sc_law.nd rfl (by first | exact .inl rfl | exact .inr rfl) (d_lst (d_cons (d_fnK ((f_sum_bar T).mono (k := 11) (by first | decide | omega)) rfl rfl hr (by rfl) (d_kC (d_var (pv 3)) (d_kN))) (d_cons (d_fnK ((f_skew_bar T).mono (k := 11) (by first | decide | omega)) rfl rfl hr (by rfl) (d_kC (d_var (pv 3)) (d_kN))) (d_cons (d_fnK ((f_block_bar T).mono (k := 11) (by first | decide | omega)) rfl rfl hr (by rfl) (d_kC (d_var (pv 3)) (d_kN))) (d_nil)))))) (d_sone (d_if (d_w (d_or (d_tne hr (d_repr hr (by rfl) T.m_repr (d_cons (d_lst (d_cons (d_var (pv 8)) (d_cons (d_var (pv 9)) (d_nil)))) (d_nil))) (d_repr hr (by rfl) T.m_repr (d_cons (d_lst (d_cons (d_var (pv 7)) (d_cons (d_var (pv 7)) (d_nil)))) (d_nil)))) (d_or (d_not (d_test (d_fn ((f_u_law_are_closed T).mono (k := 11) (by first | decide | omega)) rfl rfl hr (by rfl) (d_cons (d_var (pv 1)) (d_cons (d_var (pv 3)) (d_cons (d_var (pv 7)) (d_nil))))))) (d_or1 (d_tne hr (d_repr hr (by rfl) T.m_repr (d_cons (d_var (pv 3)) (d_nil))) (d_var (pv 6))))))) (d_sone (d_ret (d_c pe_bl rfl))) (d_snil)))))))))) (d_sone (d_ret (d_c pe_bl rfl)))) m1
end

/-! ### the head -/
theorem all_mk {P : Program} {w : World} {K : PySem.W.Frag} {h : Heap} {mg : Str → Option Value} {fa : Addr} (X : K.In h) (G : h.Ns mainGlobals mg) (hfa : mg "law" = some (.ref fa))
    (m0 : ∀ ns : List Int, ns.length ≤ 63 → w_deck0 ⟨fun ρ => ρ.length = 4 ∧ ρ[0]? = some (.im (scrD ns)) ∧ ∃ m : Int, 0 ≤ m ∧ ρ[1]? = some (.own false (.d [(.inr "great", .list []), (.inr "mixed", .int m), (.inr "turns", .int 0)])), fun _ _ => False, fun _ => False, fun _ => False, fun _ => False⟩ (.im (scrD ns) :: List.replicate 3 .no)) (m1 : w_law lawP (potEnv 10 1))
    {oc0 : Value} {od0 an0 : Option Addr} {sl0 : Array (Option Value)} {kV0 dc0 pm0 cd0 ct0 : Value} {g0 : Addr}
    {oc1 : Value} {od1 an1 : Option Addr} {sl1 : Array (Option Value)} {kV1 dc1 pm1 cd1 ct1 : Value} {g1 : Addr}
    {oc2 : Value} {od2 an2 : Option Addr} {sl2 : Array (Option Value)} {kV2 dc2 pm2 cd2 ct2 : Value} {g2 : Addr}
    {oc3 : Value} {od3 an3 : Option Addr} {sl3 : Array (Option Value)} {kV3 dc3 pm3 cd3 ct3 : Value} {g3 : Addr}
    {oc4 : Value} {od4 an4 : Option Addr} {sl4 : Array (Option Value)} {kV4 dc4 pm4 cd4 ct4 : Value} {g4 : Addr}
    {oc5 : Value} {od5 an5 : Option Addr} {sl5 : Array (Option Value)} {kV5 dc5 pm5 cd5 ct5 : Value} {g5 : Addr}
    {oc6 : Value} {od6 an6 : Option Addr} {sl6 : Array (Option Value)} {kV6 dc6 pm6 cd6 ct6 : Value} {g6 : Addr}
    {oc7 : Value} {od7 an7 : Option Addr} {sl7 : Array (Option Value)} {kV7 dc7 pm7 cd7 ct7 : Value} {g7 : Addr}
    {oc8 : Value} {od8 an8 : Option Addr} {sl8 : Array (Option Value)} {kV8 dc8 pm8 cd8 ct8 : Value} {g8 : Addr}
    {oc9 : Value} {od9 an9 : Option Addr} {sl9 : Array (Option Value)} {kV9 dc9 pm9 cd9 ct9 : Value} {g9 : Addr}
    {oc10 : Value} {od10 an10 : Option Addr} {sl10 : Array (Option Value)} {kV10 dc10 pm10 cd10 ct10 : Value} {g10 : Addr}
    {oc11 : Value} {od11 an11 : Option Addr} {sl11 : Array (Option Value)} {kV11 dc11 pm11 cd11 ct11 : Value} {g11 : Addr}
    {oc12 : Value} {od12 an12 : Option Addr} {sl12 : Array (Option Value)} {kV12 dc12 pm12 cd12 ct12 : Value} {g12 : Addr}
    {oc13 : Value} {od13 an13 : Option Addr} {sl13 : Array (Option Value)} {kV13 dc13 pm13 cd13 ct13 : Value} {g13 : Addr}
    {oc14 : Value} {od14 an14 : Option Addr} {sl14 : Array (Option Value)} {kV14 dc14 pm14 cd14 ct14 : Value} {g14 : Addr}
    {oc15 : Value} {od15 an15 : Option Addr} {sl15 : Array (Option Value)} {kV15 dc15 pm15 cd15 ct15 : Value} {g15 : Addr}
    {oc16 : Value} {od16 an16 : Option Addr} {sl16 : Array (Option Value)} {kV16 dc16 pm16 cd16 ct16 : Value} {g16 : Addr}
    {oc17 : Value} {od17 an17 : Option Addr} {sl17 : Array (Option Value)} {kV17 dc17 pm17 cd17 ct17 : Value} {g17 : Addr}
    {oc18 : Value} {od18 an18 : Option Addr} {sl18 : Array (Option Value)} {kV18 dc18 pm18 cd18 ct18 : Value} {g18 : Addr}
    {oc19 : Value} {od19 an19 : Option Addr} {sl19 : Array (Option Value)} {kV19 dc19 pm19 cd19 ct19 : Value} {g19 : Addr}
    {oc20 : Value} {od20 an20 : Option Addr} {sl20 : Array (Option Value)} {kV20 dc20 pm20 cd20 ct20 : Value} {g20 : Addr}
    {oc21 : Value} {od21 an21 : Option Addr} {sl21 : Array (Option Value)} {kV21 dc21 pm21 cd21 ct21 : Value} {g21 : Addr}
    {oc22 : Value} {od22 an22 : Option Addr} {sl22 : Array (Option Value)} {kV22 dc22 pm22 cd22 ct22 : Value} {g22 : Addr}
    {oc23 : Value} {od23 an23 : Option Addr} {sl23 : Array (Option Value)} {kV23 dc23 pm23 cd23 ct23 : Value} {g23 : Addr}
    {oc24 : Value} {od24 an24 : Option Addr} {sl24 : Array (Option Value)} {kV24 dc24 pm24 cd24 ct24 : Value} {g24 : Addr}
    (a0 : PySem.W.nsIn K mainGlobals "nexts" = some (some (.ref g0))) (l0 : K.lookup g0 = some ⟨oc0, od0, .func (PySem.W.fnOf "nexts" "nexts" (defArgs s_nexts) (defBody s_nexts) (defScope s_nexts) .none kV0 dc0 pm0 an0 cd0 ct0), sl0⟩) (c0 : PySem.W.codeIn K cd0 "nexts" = true) (k0 : PySem.W.keepIn K (.ref g0) = true)
    (a1 : PySem.W.nsIn K mainGlobals "collect" = some (some (.ref g1))) (l1 : K.lookup g1 = some ⟨oc1, od1, .func (PySem.W.fnOf "collect" "collect" (defArgs s_collect) (defBody s_collect) (defScope s_collect) .none kV1 dc1 pm1 an1 cd1 ct1), sl1⟩) (c1 : PySem.W.codeIn K cd1 "collect" = true) (k1 : PySem.W.keepIn K (.ref g1) = true)
    (a2 : PySem.W.nsIn K mainGlobals "first_placing" = some (some (.ref g2))) (l2 : K.lookup g2 = some ⟨oc2, od2, .func (PySem.W.fnOf "first_placing" "first_placing" (defArgs s_first_placing) (defBody s_first_placing) (defScope s_first_placing) .none kV2 dc2 pm2 an2 cd2 ct2), sl2⟩) (c2 : PySem.W.codeIn K cd2 "first_placing" = true) (k2 : PySem.W.keepIn K (.ref g2) = true)
    (a3 : PySem.W.nsIn K mainGlobals "barred_by" = some (some (.ref g3))) (l3 : K.lookup g3 = some ⟨oc3, od3, .func (PySem.W.fnOf "barred_by" "barred_by" (defArgs s_barred_by) (defBody s_barred_by) (defScope s_barred_by) .none kV3 dc3 pm3 an3 cd3 ct3), sl3⟩) (c3 : PySem.W.codeIn K cd3 "barred_by" = true) (k3 : PySem.W.keepIn K (.ref g3) = true)
    (a4 : PySem.W.nsIn K mainGlobals "sum_bar" = some (some (.ref g4))) (l4 : K.lookup g4 = some ⟨oc4, od4, .func (PySem.W.fnOf "sum_bar" "sum_bar" (defArgs s_sum_bar) (defBody s_sum_bar) (defScope s_sum_bar) .none kV4 dc4 pm4 an4 cd4 ct4), sl4⟩) (c4 : PySem.W.codeIn K cd4 "sum_bar" = true) (k4 : PySem.W.keepIn K (.ref g4) = true)
    (a5 : PySem.W.nsIn K mainGlobals "skew_bar" = some (some (.ref g5))) (l5 : K.lookup g5 = some ⟨oc5, od5, .func (PySem.W.fnOf "skew_bar" "skew_bar" (defArgs s_skew_bar) (defBody s_skew_bar) (defScope s_skew_bar) .none kV5 dc5 pm5 an5 cd5 ct5), sl5⟩) (c5 : PySem.W.codeIn K cd5 "skew_bar" = true) (k5 : PySem.W.keepIn K (.ref g5) = true)
    (a6 : PySem.W.nsIn K mainGlobals "block_bar" = some (some (.ref g6))) (l6 : K.lookup g6 = some ⟨oc6, od6, .func (PySem.W.fnOf "block_bar" "block_bar" (defArgs s_block_bar) (defBody s_block_bar) (defScope s_block_bar) .none kV6 dc6 pm6 an6 cd6 ct6), sl6⟩) (c6 : PySem.W.codeIn K cd6 "block_bar" = true) (k6 : PySem.W.keepIn K (.ref g6) = true)
    (a7 : PySem.W.nsIn K mainGlobals "_law_deck" = some (some (.ref g7))) (l7 : K.lookup g7 = some ⟨oc7, od7, .func (PySem.W.fnOf "_law_deck" "_law_deck" (defArgs s_u_law_deck) (defBody s_u_law_deck) (defScope s_u_law_deck) .none kV7 dc7 pm7 an7 cd7 ct7), sl7⟩) (c7 : PySem.W.codeIn K cd7 "_law_deck" = true) (k7 : PySem.W.keepIn K (.ref g7) = true)
    (a8 : PySem.W.nsIn K mainGlobals "_law_draw" = some (some (.ref g8))) (l8 : K.lookup g8 = some ⟨oc8, od8, .func (PySem.W.fnOf "_law_draw" "_law_draw" (defArgs s_u_law_draw) (defBody s_u_law_draw) (defScope s_u_law_draw) .none kV8 dc8 pm8 an8 cd8 ct8), sl8⟩) (c8 : PySem.W.codeIn K cd8 "_law_draw" = true) (k8 : PySem.W.keepIn K (.ref g8) = true)
    (a9 : PySem.W.nsIn K mainGlobals "_law_pick" = some (some (.ref g9))) (l9 : K.lookup g9 = some ⟨oc9, od9, .func (PySem.W.fnOf "_law_pick" "_law_pick" (defArgs s_u_law_pick) (defBody s_u_law_pick) (defScope s_u_law_pick) .none kV9 dc9 pm9 an9 cd9 ct9), sl9⟩) (c9 : PySem.W.codeIn K cd9 "_law_pick" = true) (k9 : PySem.W.keepIn K (.ref g9) = true)
    (a10 : PySem.W.nsIn K mainGlobals "_law_row" = some (some (.ref g10))) (l10 : K.lookup g10 = some ⟨oc10, od10, .func (PySem.W.fnOf "_law_row" "_law_row" (defArgs s_u_law_row) (defBody s_u_law_row) (defScope s_u_law_row) .none kV10 dc10 pm10 an10 cd10 ct10), sl10⟩) (c10 : PySem.W.codeIn K cd10 "_law_row" = true) (k10 : PySem.W.keepIn K (.ref g10) = true)
    (a11 : PySem.W.nsIn K mainGlobals "_law_like" = some (some (.ref g11))) (l11 : K.lookup g11 = some ⟨oc11, od11, .func (PySem.W.fnOf "_law_like" "_law_like" (defArgs s_u_law_like) (defBody s_u_law_like) (defScope s_u_law_like) .none kV11 dc11 pm11 an11 cd11 ct11), sl11⟩) (c11 : PySem.W.codeIn K cd11 "_law_like" = true) (k11 : PySem.W.keepIn K (.ref g11) = true)
    (a12 : PySem.W.nsIn K mainGlobals "_law_fits" = some (some (.ref g12))) (l12 : K.lookup g12 = some ⟨oc12, od12, .func (PySem.W.fnOf "_law_fits" "_law_fits" (defArgs s_u_law_fits) (defBody s_u_law_fits) (defScope s_u_law_fits) .none kV12 dc12 pm12 an12 cd12 ct12), sl12⟩) (c12 : PySem.W.codeIn K cd12 "_law_fits" = true) (k12 : PySem.W.keepIn K (.ref g12) = true)
    (a13 : PySem.W.nsIn K mainGlobals "_law_placing" = some (some (.ref g13))) (l13 : K.lookup g13 = some ⟨oc13, od13, .func (PySem.W.fnOf "_law_placing" "_law_placing" (defArgs s_u_law_placing) (defBody s_u_law_placing) (defScope s_u_law_placing) .none kV13 dc13 pm13 an13 cd13 ct13), sl13⟩) (c13 : PySem.W.codeIn K cd13 "_law_placing" = true) (k13 : PySem.W.keepIn K (.ref g13) = true)
    (a14 : PySem.W.nsIn K mainGlobals "_law_is_in" = some (some (.ref g14))) (l14 : K.lookup g14 = some ⟨oc14, od14, .func (PySem.W.fnOf "_law_is_in" "_law_is_in" (defArgs s_u_law_is_in) (defBody s_u_law_is_in) (defScope s_u_law_is_in) .none kV14 dc14 pm14 an14 cd14 ct14), sl14⟩) (c14 : PySem.W.codeIn K cd14 "_law_is_in" = true) (k14 : PySem.W.keepIn K (.ref g14) = true)
    (a15 : PySem.W.nsIn K mainGlobals "_law_bars" = some (some (.ref g15))) (l15 : K.lookup g15 = some ⟨oc15, od15, .func (PySem.W.fnOf "_law_bars" "_law_bars" (defArgs s_u_law_bars) (defBody s_u_law_bars) (defScope s_u_law_bars) .none kV15 dc15 pm15 an15 cd15 ct15), sl15⟩) (c15 : PySem.W.codeIn K cd15 "_law_bars" = true) (k15 : PySem.W.keepIn K (.ref g15) = true)
    (a16 : PySem.W.nsIn K mainGlobals "_law_is_member" = some (some (.ref g16))) (l16 : K.lookup g16 = some ⟨oc16, od16, .func (PySem.W.fnOf "_law_is_member" "_law_is_member" (defArgs s_u_law_is_member) (defBody s_u_law_is_member) (defScope s_u_law_is_member) .none kV16 dc16 pm16 an16 cd16 ct16), sl16⟩) (c16 : PySem.W.codeIn K cd16 "_law_is_member" = true) (k16 : PySem.W.keepIn K (.ref g16) = true)
    (a17 : PySem.W.nsIn K mainGlobals "_law_least_rows" = some (some (.ref g17))) (l17 : K.lookup g17 = some ⟨oc17, od17, .func (PySem.W.fnOf "_law_least_rows" "_law_least_rows" (defArgs s_u_law_least_rows) (defBody s_u_law_least_rows) (defScope s_u_law_least_rows) .none kV17 dc17 pm17 an17 cd17 ct17), sl17⟩) (c17 : PySem.W.codeIn K cd17 "_law_least_rows" = true) (k17 : PySem.W.keepIn K (.ref g17) = true)
    (a18 : PySem.W.nsIn K mainGlobals "_law_cut" = some (some (.ref g18))) (l18 : K.lookup g18 = some ⟨oc18, od18, .func (PySem.W.fnOf "_law_cut" "_law_cut" (defArgs s_u_law_cut) (defBody s_u_law_cut) (defScope s_u_law_cut) .none kV18 dc18 pm18 an18 cd18 ct18), sl18⟩) (c18 : PySem.W.codeIn K cd18 "_law_cut" = true) (k18 : PySem.W.keepIn K (.ref g18) = true)
    (a19 : PySem.W.nsIn K mainGlobals "_law_block" = some (some (.ref g19))) (l19 : K.lookup g19 = some ⟨oc19, od19, .func (PySem.W.fnOf "_law_block" "_law_block" (defArgs s_u_law_block) (defBody s_u_law_block) (defScope s_u_law_block) .none kV19 dc19 pm19 an19 cd19 ct19), sl19⟩) (c19 : PySem.W.codeIn K cd19 "_law_block" = true) (k19 : PySem.W.keepIn K (.ref g19) = true)
    (a20 : PySem.W.nsIn K mainGlobals "_law_put" = some (some (.ref g20))) (l20 : K.lookup g20 = some ⟨oc20, od20, .func (PySem.W.fnOf "_law_put" "_law_put" (defArgs s_u_law_put) (defBody s_u_law_put) (defScope s_u_law_put) .none kV20 dc20 pm20 an20 cd20 ct20), sl20⟩) (c20 : PySem.W.codeIn K cd20 "_law_put" = true) (k20 : PySem.W.keepIn K (.ref g20) = true)
    (a21 : PySem.W.nsIn K mainGlobals "_law_filled" = some (some (.ref g21))) (l21 : K.lookup g21 = some ⟨oc21, od21, .func (PySem.W.fnOf "_law_filled" "_law_filled" (defArgs s_u_law_filled) (defBody s_u_law_filled) (defScope s_u_law_filled) .none kV21 dc21 pm21 an21 cd21 ct21), sl21⟩) (c21 : PySem.W.codeIn K cd21 "_law_filled" = true) (k21 : PySem.W.keepIn K (.ref g21) = true)
    (a22 : PySem.W.nsIn K mainGlobals "_law_member" = some (some (.ref g22))) (l22 : K.lookup g22 = some ⟨oc22, od22, .func (PySem.W.fnOf "_law_member" "_law_member" (defArgs s_u_law_member) (defBody s_u_law_member) (defScope s_u_law_member) .none kV22 dc22 pm22 an22 cd22 ct22), sl22⟩) (c22 : PySem.W.codeIn K cd22 "_law_member" = true) (k22 : PySem.W.keepIn K (.ref g22) = true)
    (a23 : PySem.W.nsIn K mainGlobals "_law_are_closed" = some (some (.ref g23))) (l23 : K.lookup g23 = some ⟨oc23, od23, .func (PySem.W.fnOf "_law_are_closed" "_law_are_closed" (defArgs s_u_law_are_closed) (defBody s_u_law_are_closed) (defScope s_u_law_are_closed) .none kV23 dc23 pm23 an23 cd23 ct23), sl23⟩) (c23 : PySem.W.codeIn K cd23 "_law_are_closed" = true) (k23 : PySem.W.keepIn K (.ref g23) = true)
    (a24 : PySem.W.nsIn K mainGlobals "law" = some (some (.ref g24))) (l24 : K.lookup g24 = some ⟨oc24, od24, .func (PySem.W.fnOf "law" "law" (defArgs s_law) (defBody s_law) (defScope s_law) .none kV24 dc24 pm24 an24 cd24 ct24), sl24⟩) (c24 : PySem.W.codeIn K cd24 "law" = true) (k24 : PySem.W.keepIn K (.ref g24) = true)
    (z_abs : PySem.W.nsIn K mainGlobals "abs" = some none)
    (z_enumerate : PySem.W.nsIn K mainGlobals "enumerate" = some none)
    (z_int : PySem.W.nsIn K mainGlobals "int" = some none)
    (z_len : PySem.W.nsIn K mainGlobals "len" = some none)
    (z_list : PySem.W.nsIn K mainGlobals "list" = some none)
    (z_max : PySem.W.nsIn K mainGlobals "max" = some none)
    (z_min : PySem.W.nsIn K mainGlobals "min" = some none)
    (z_range : PySem.W.nsIn K mainGlobals "range" = some none)
    (z_repr : PySem.W.nsIn K mainGlobals "repr" = some none)
    (z_set : PySem.W.nsIn K mainGlobals "set" = some none)
    (z_sorted : PySem.W.nsIn K mainGlobals "sorted" = some none)
    (z_sum : PySem.W.nsIn K mainGlobals "sum" = some none)
    (z_tuple : PySem.W.nsIn K mainGlobals "tuple" = some none)
    : ∃ fd : FuncData, (∀ (s : Shared) (v : Value), BindsTo s fd ⟨[v], []⟩ [("script", v)]) ∧ ∀ base : Heap, K.In base → base.Ns mainGlobals mg → FnG P w K mg base CX0 12 fa fd ["script"] (spLaw K) := by
  have e := hfa.symm.trans (PySem.W.mg_of X G a24)
  cases e
  have T : Tops K mg := ⟨df_mk ["row", "pattern", "places"] X G (by decide) (fun _ _ _ _ _ _ us hl => match us, hl with | [_, _, _], _ => rfl) (fun _ _ _ _ _ _ us hl => match us, hl with | [_, _, _], _ => rfl) a0 l0 c0 k0,
    df_mk ["row", "pattern", "places", "found", "most"] X G (by decide) (fun _ _ _ _ _ _ us hl => match us, hl with | [_, _, _, _, _], _ => rfl) (fun _ _ _ _ _ _ us hl => match us, hl with | [_, _, _, _, _], _ => rfl) a1 l1 c1 k1,
    df_mk ["row", "pattern"] X G (by decide) (fun _ _ _ _ _ _ us hl => match us, hl with | [_, _], _ => rfl) (fun _ _ _ _ _ _ us hl => match us, hl with | [_, _], _ => rfl) a2 l2 c2 k2,
    df_mk ["bars", "row"] X G (by decide) (fun _ _ _ _ _ _ us hl => match us, hl with | [_, _], _ => rfl) (fun _ _ _ _ _ _ us hl => match us, hl with | [_, _], _ => rfl) a3 l3 c3 k3,
    df_mk ["bars"] X G (by decide) (fun _ _ _ _ _ _ us hl => match us, hl with | [_], _ => rfl) (fun _ _ _ _ _ _ us hl => match us, hl with | [_], _ => rfl) a4 l4 c4 k4,
    df_mk ["bars"] X G (by decide) (fun _ _ _ _ _ _ us hl => match us, hl with | [_], _ => rfl) (fun _ _ _ _ _ _ us hl => match us, hl with | [_], _ => rfl) a5 l5 c5 k5,
    df_mk ["bars"] X G (by decide) (fun _ _ _ _ _ _ us hl => match us, hl with | [_], _ => rfl) (fun _ _ _ _ _ _ us hl => match us, hl with | [_], _ => rfl) a6 l6 c6 k6,
    df_mk ["script"] X G (by decide) (fun _ _ _ _ _ _ us hl => match us, hl with | [_], _ => rfl) (fun _ _ _ _ _ _ us hl => match us, hl with | [_], _ => rfl) a7 l7 c7 k7,
    df_mk ["deck", "many"] X G (by decide) (fun _ _ _ _ _ _ us hl => match us, hl with | [_, _], _ => rfl) (fun _ _ _ _ _ _ us hl => match us, hl with | [_, _], _ => rfl) a8 l8 c8 k8,
    df_mk ["deck", "row"] X G (by decide) (fun _ _ _ _ _ _ us hl => match us, hl with | [_, _], _ => rfl) (fun _ _ _ _ _ _ us hl => match us, hl with | [_, _], _ => rfl) a9 l9 c9 k9,
    df_mk ["deck", "many"] X G (by decide) (fun _ _ _ _ _ _ us hl => match us, hl with | [_, _], _ => rfl) (fun _ _ _ _ _ _ us hl => match us, hl with | [_, _], _ => rfl) a10 l10 c10 k10,
    df_mk ["items"] X G (by decide) (fun _ _ _ _ _ _ us hl => match us, hl with | [_], _ => rfl) (fun _ _ _ _ _ _ us hl => match us, hl with | [_], _ => rfl) a11 l11 c11 k11,
    df_mk ["row", "pattern", "chosen", "place"] X G (by decide) (fun _ _ _ _ _ _ us hl => match us, hl with | [_, _, _, _], _ => rfl) (fun _ _ _ _ _ _ us hl => match us, hl with | [_, _, _, _], _ => rfl) a12 l12 c12 k12,
    df_mk ["row", "pattern"] X G (by decide) (fun _ _ _ _ _ _ us hl => match us, hl with | [_, _], _ => rfl) (fun _ _ _ _ _ _ us hl => match us, hl with | [_, _], _ => rfl) a13 l13 c13 k13,
    df_mk ["pattern", "row"] X G (by decide) (fun _ _ _ _ _ _ us hl => match us, hl with | [_, _], _ => rfl) (fun _ _ _ _ _ _ us hl => match us, hl with | [_, _], _ => rfl) a14 l14 c14 k14,
    df_mk ["deck", "longest"] X G (by decide) (fun _ _ _ _ _ _ us hl => match us, hl with | [_, _], _ => rfl) (fun _ _ _ _ _ _ us hl => match us, hl with | [_, _], _ => rfl) a15 l15 c15 k15,
    df_mk ["bars", "row"] X G (by decide) (fun _ _ _ _ _ _ us hl => match us, hl with | [_, _], _ => rfl) (fun _ _ _ _ _ _ us hl => match us, hl with | [_, _], _ => rfl) a16 l16 c16 k16,
    df_mk ["rows"] X G (by decide) (fun _ _ _ _ _ _ us hl => match us, hl with | [_], _ => rfl) (fun _ _ _ _ _ _ us hl => match us, hl with | [_], _ => rfl) a17 l17 c17 k17,
    df_mk ["bars", "is_skew"] X G (by decide) (fun _ _ _ _ _ _ us hl => match us, hl with | [_, _], _ => rfl) (fun _ _ _ _ _ _ us hl => match us, hl with | [_, _], _ => rfl) a18 l18 c18 k18,
    df_mk ["bars"] X G (by decide) (fun _ _ _ _ _ _ us hl => match us, hl with | [_], _ => rfl) (fun _ _ _ _ _ _ us hl => match us, hl with | [_], _ => rfl) a19 l19 c19 k19,
    df_mk ["one", "other", "is_skew"] X G (by decide) (fun _ _ _ _ _ _ us hl => match us, hl with | [_, _, _], _ => rfl) (fun _ _ _ _ _ _ us hl => match us, hl with | [_, _, _], _ => rfl) a20 l20 c20 k20,
    df_mk ["row", "parts"] X G (by decide) (fun _ _ _ _ _ _ us hl => match us, hl with | [_, _], _ => rfl) (fun _ _ _ _ _ _ us hl => match us, hl with | [_, _], _ => rfl) a21 l21 c21 k21,
    df_mk ["deck", "bars", "most"] X G (by decide) (fun _ _ _ _ _ _ us hl => match us, hl with | [_, _, _], _ => rfl) (fun _ _ _ _ _ _ us hl => match us, hl with | [_, _, _], _ => rfl) a22 l22 c22 k22,
    df_mk ["deck", "bars", "dues"] X G (by decide) (fun _ _ _ _ _ _ us hl => match us, hl with | [_, _, _], _ => rfl) (fun _ _ _ _ _ _ us hl => match us, hl with | [_, _, _], _ => rfl) a23 l23 c23 k23,
    PySem.W.mg_none_of X G z_abs,
    PySem.W.mg_none_of X G z_enumerate,
    PySem.W.mg_none_of X G z_int,
    PySem.W.mg_none_of X G z_len,
    PySem.W.mg_none_of X G z_list,
    PySem.W.mg_none_of X G z_max,
    PySem.W.mg_none_of X G z_min,
    PySem.W.mg_none_of X G z_range,
    PySem.W.mg_none_of X G z_repr,
    PySem.W.mg_none_of X G z_set,
    PySem.W.mg_none_of X G z_sorted,
    PySem.W.mg_none_of X G z_sum,
    PySem.W.mg_none_of X G z_tuple⟩
  exact ⟨PySem.W.fnOf "law" "law" (defArgs s_law) (defBody s_law) (defScope s_law) .none kV24 dc24 pm24 an24 cd24 ct24, fun s v => .of_eq rfl, fun base _ _ => f_law (fun_mk (st := s_law) l24 c24 k24) T m0 m1⟩
end Tr

namespace Tr
open PySem L2
/-! ### rows turned -/
def flipI (p : List Int) : List Int := p.map fun x => p.length - 1 - x
/-- q is the other way about of p -/
def IsInv (p q : List Int) : Prop := q.length = p.length ∧ ∀ (j : Nat) (x : Int), p[j]? = some x → q[x.toNat]? = some (j : Int)
def Sm (k : Nat) (p : List Int) : Prop := ∀ x ∈ p, x.natAbs ≤ k
theorem Sm.of_row {p : List Int} {k : Nat} (h : IsRow p) (hl : p.length ≤ k) : Sm k p := fun x hx => by
  have := h.mem.mp hx
  omega
theorem Sm.mono {p : List Int} {k m : Nat} (h : Sm k p) (e : k ≤ m) : Sm m p := fun x hx => Nat.le_trans (h x hx) e
theorem Sm.flip {a : List Int} {k n : Nat} (ha : Sm k a) (h : k + a.length + 1 ≤ n) : Sm n (flipI a) := fun x hx => by
  obtain ⟨y, hy, rfl⟩ := List.mem_map.mp hx
  have := ha y hy
  omega
theorem Sm.rev {a : List Int} {k : Nat} (ha : Sm k a) : Sm k a.reverse := fun x hx => ha x (List.mem_reverse.mp hx)
theorem Sm.fit {p : List Int} {k : Nat} (h : Sm k p) (hk : k ≤ 10000) (hl : p.length ≤ 100) : Fit 100 1 (.tuple (p.map PyData.int)) :=
  Fit.tI (p := p) (fun x hx => by
    have := h x hx
    have e : (10 : Nat) ^ 30 = 1000000000000000000000000000000 := by decide
    omega) hl (Nat.le_refl _)
theorem flip_len (a : List Int) : (flipI a).length = a.length := by rw [flipI, List.length_map]
/-- of a row there is one other way about -/
theorem IsInv.one {p q q' : List Int} (hp : IsRow p) (h : IsInv p q) (h' : IsInv p q') : q = q' := by
  apply List.ext_getElem?
  intro y
  by_cases hy : y < p.length
  · obtain ⟨j, hj⟩ := List.getElem?_of_mem ((hp.mem (x := (y : Int))).mpr ⟨by omega, by omega⟩)
    have h1 := h.2 j _ hj
    have h2 := h'.2 j _ hj
    rw [Int.toNat_natCast] at h1 h2
    rw [h1, h2]
  · rw [List.getElem?_eq_none (by rw [h.1]; omega), List.getElem?_eq_none (by rw [h'.1]; omega)]
theorem IsInv.small {p q : List Int} (hp : IsRow p) (h : IsInv p q) : Sm p.length q := fun x hx => by
  obtain ⟨y, hy⟩ := List.getElem?_of_mem hx
  have hl := (List.getElem?_eq_some_iff.mp hy).1
  rw [h.1] at hl
  obtain ⟨j, hj⟩ := List.getElem?_of_mem ((hp.mem (x := (y : Int))).mpr ⟨by omega, by omega⟩)
  have h1 := h.2 j _ hj
  rw [Int.toNat_natCast, hy] at h1
  have h2 := (List.getElem?_eq_some_iff.mp hj).1
  cases h1
  omega

/-! ### the eight turnings -/
theorem perm_of_sub : ∀ (l m : List Int), l.Nodup → (∀ x ∈ l, x ∈ m) → l.length = m.length → l.Perm m
  | [], m, _, _, hl => by
    cases m with
    | nil => exact List.Perm.refl _
    | cons _ _ => cases hl
  | a :: l, m, hn, hs, hl => by
    rw [List.nodup_cons] at hn
    have ha := hs a List.mem_cons_self
    have h1 := List.perm_cons_erase ha
    have h2 := h1.length_eq
    rw [List.length_cons] at h2
    refine (List.Perm.cons a (perm_of_sub l (m.erase a) hn.2 (fun x hx => ?_) (by rw [List.length_cons] at hl; omega))).trans h1.symm
    have hne : x ≠ a := fun z => hn.1 (z ▸ hx)
    exact (List.mem_erase_of_ne hne).mpr (hs x (List.mem_cons_of_mem _ hx))
theorem IsInv.row {p q : List Int} (hp : IsRow p) (h : IsInv p q) : IsRow q := by
  unfold IsRow
  refine (perm_of_sub _ _ ?_ (fun x hx => ?_) (by rw [List.length_map, List.length_range])).symm
  · rw [List.Nodup, List.pairwise_map]
    exact List.Pairwise.imp (fun h e => h (Int.ofNat.inj e)) List.nodup_range
  · obtain ⟨j, hj, rfl⟩ := List.mem_map.mp hx
    have hj := List.mem_range.mp hj
    rw [h.1] at hj
    exact List.mem_of_getElem? (h.2 j _ (List.getElem?_eq_getElem hj))
theorem IsInv.symm {p q : List Int} (hp : IsRow p) (h : IsInv p q) : IsInv q p := by
  refine ⟨h.1.symm, fun j x hx => ?_⟩
  have hj := (List.getElem?_eq_some_iff.mp hx).1
  rw [h.1] at hj
  obtain ⟨i, hi⟩ := List.getElem?_of_mem ((hp.mem (x := (j : Int))).mpr ⟨by omega, by omega⟩)
  have h2 := h.2 i _ hi
  rw [Int.toNat_natCast, hx] at h2
  cases h2
  rw [Int.toNat_natCast]
  exact hi
theorem get_flip {p : List Int} {j : Nat} {x : Int} (h : (flipI p)[j]? = some x) : ∃ y, p[j]? = some y ∧ x = p.length - 1 - y := by
  unfold flipI at h
  rw [List.getElem?_map] at h
  obtain ⟨y, h1, h2⟩ := Option.map_eq_some_iff.mp h
  exact ⟨y, h1, h2.symm⟩
theorem inv_flip {p q : List Int} (hp : IsRow p) (h : IsInv p q) : IsInv (flipI p) q.reverse := by
  refine ⟨by rw [List.length_reverse, flip_len, h.1], fun j x hx => ?_⟩
  obtain ⟨y, hy, rfl⟩ := get_flip hx
  have hm := hp.mem.mp (List.mem_of_getElem? hy)
  have h2 := h.2 j y hy
  rw [List.getElem?_reverse (by rw [h.1]; omega), h.1, show p.length - 1 - ((p.length : Int) - 1 - y).toNat = y.toNat by omega]
  exact h2
theorem inv_rev {p q : List Int} (hp : IsRow p) (h : IsInv p q) : IsInv p.reverse (flipI q) := by
  refine ⟨by rw [flip_len, List.length_reverse, h.1], fun j x hx => ?_⟩
  have hj := (List.getElem?_eq_some_iff.mp hx).1
  rw [List.length_reverse] at hj
  rw [List.getElem?_reverse hj] at hx
  have h2 := h.2 _ x hx
  unfold flipI
  rw [List.getElem?_map, h2, h.1]
  show some ((p.length : Int) - 1 - ((p.length - 1 - j : Nat) : Int)) = some (j : Int)
  congr 1
  omega
theorem flip_rev (p : List Int) : flipI p.reverse = (flipI p).reverse := by
  unfold flipI
  rw [List.length_reverse, List.map_reverse]
theorem flip_flip (p : List Int) : flipI (flipI p) = p := by
  unfold flipI
  rw [List.map_map, List.length_map]
  refine (List.map_congr_left fun x _ => ?_).trans (List.map_id p)
  show (p.length : Int) - 1 - (p.length - 1 - x) = x
  omega
theorem IsRow.flip {p : List Int} (hp : IsRow p) : IsRow (flipI p) := by
  unfold IsRow
  rw [flip_len]
  refine (perm_of_sub _ _ ?_ (fun x hx => ?_) (by rw [List.length_map, List.length_range, flip_len])).symm
  · rw [List.Nodup, List.pairwise_map]
    exact List.Pairwise.imp (fun h e => h (Int.ofNat.inj e)) List.nodup_range
  · obtain ⟨j, hj, rfl⟩ := List.mem_map.mp hx
    have hj := List.mem_range.mp hj
    refine List.mem_map.mpr ⟨(p.length : Int) - 1 - j, hp.mem.mpr ⟨by omega, by omega⟩, ?_⟩
    show (p.length : Int) - 1 - (p.length - 1 - j) = Int.ofNat j
    have : (Int.ofNat j) = (j : Int) := rfl
    omega
theorem IsRow.rev {p : List Int} (hp : IsRow p) : IsRow p.reverse := hp.of_perm (List.reverse_perm p)
/-- the other way about of a row -/
theorem inv_ex {p : List Int} (hp : IsRow p) : ∃ q, IsInv p q := by
  have h : ∀ y : Nat, y < p.length → ∃ j : Nat, p[j]? = some (y : Int) := fun y hy => List.getElem?_of_mem ((hp.mem (x := (y : Int))).mpr ⟨by omega, by omega⟩)
  refine ⟨(List.range p.length).map fun y => if hy : y < p.length then ((h y hy).choose : Int) else 0, by rw [List.length_map, List.length_range], fun j x hx => ?_⟩
  have hm := hp.mem.mp (List.mem_of_getElem? hx)
  have hlt : x.toNat < p.length := by omega
  rw [List.getElem?_map, List.getElem?_range hlt]
  show some (dite _ _ _) = _
  rw [dif_pos hlt]
  have h2 := (h x.toNat hlt).choose_spec
  generalize (h x.toNat hlt).choose = i at h2
  rw [Int.toNat_of_nonneg hm.1] at h2
  rw [nodup_get hp.nodup h2 hx]
/-- turning by three questions -/
def turnB (f r v : Bool) (p q : List Int) : List Int :=
  let a := if v = true then q else p
  let b := if r = true then a.reverse else a
  if f = true then flipI b else b
/-- n's questions -/
def tF (n : Nat) : Bool := decide (4 ≤ n)
def tR (n : Nat) : Bool := n == 2 || n == 3 || n == 6 || n == 7
def tV (n : Nat) : Bool := n % 2 == 1
def turnN (n : Nat) (p q : List Int) : List Int := turnB (tF n) (tR n) (tV n) p q
theorem turnB_row {f r v : Bool} {p q : List Int} (hp : IsRow p) (hq : IsInv p q) : IsRow (turnB f r v p q) ∧ (turnB f r v p q).length = p.length := by
  have h1 := hq.row hp
  have h2 := hq.1
  constructor
  · cases f <;> cases r <;> cases v <;> simp only [turnB, if_true, if_false, Bool.false_eq_true] <;> first | exact hp | exact h1 | exact hp.rev | exact h1.rev | exact hp.flip | exact h1.flip | exact hp.rev.flip | exact h1.rev.flip
  · cases f <;> cases r <;> cases v <;> simp only [turnB, if_true, if_false, Bool.false_eq_true, flip_len, List.length_reverse, h2]
/-- the other way about of a turned row -/
theorem turnB_inv {f r v : Bool} {p q : List Int} (hp : IsRow p) (hq : IsInv p q) : IsInv (turnB f r v p q) (turnB r f (!v) p q) := by
  have h1 := hq.row hp
  have h2 := hq.symm hp
  cases f <;> cases r <;> cases v <;> simp only [turnB, if_true, if_false, Bool.false_eq_true, Bool.not_true, Bool.not_false]
  · exact hq
  · exact h2
  · exact inv_rev hp hq
  · exact inv_rev h1 h2
  · exact inv_flip hp hq
  · exact inv_flip h1 h2
  · have := inv_flip hp.rev (inv_rev hp hq)
    rw [flip_rev q]
    exact this
  · have := inv_flip h1.rev (inv_rev h1 h2)
    rw [flip_rev p]
    exact this
/-- one turning behind another -/
theorem turnB_comp {f r v f' r' v' : Bool} {p q s : List Int} (hp : IsRow p) (hq : IsInv p q) (hs : IsInv (turnB f r v p q) s) :
    turnB f' r' v' (turnB f r v p q) s = if v' = true then turnB (xor f' r) (xor r' f) (!v) p q else turnB (xor f' f) (xor r' r) v p q := by
  have e : s = turnB r f (!v) p q := IsInv.one (turnB_row hp hq).1 hs (turnB_inv hp hq)
  subst e
  cases f <;> cases r <;> cases v <;> cases f' <;> cases r' <;> cases v' <;> simp only [turnB, if_true, if_false, Bool.false_eq_true, Bool.not_true, Bool.not_false, Bool.xor_true, Bool.xor_false, Bool.true_xor, Bool.false_xor, flip_rev, flip_flip, List.reverse_reverse]

/-! ### placings, with no program in sight -/
def pG (p : List Int) (i : Nat) : Int := p.getD i 0
theorem pG_get {p : List Int} {i : Nat} (h : i < p.length) : p[i]? = some (pG p i) := by
  rw [pG, List.getD_eq_getElem?_getD, List.getElem?_eq_getElem h]
  rfl
theorem pG_of {p : List Int} {i : Nat} {x : Int} (h : p[i]? = some x) : pG p i = x := by
  rw [pG, List.getD_eq_getElem?_getD, h]
  rfl
theorem pG_app {p : List Int} {x : Int} {i : Nat} (h : i < p.length) : pG (p ++ [x]) i = pG p i := by
  rw [pG, pG, List.getD_eq_getElem?_getD, List.getD_eq_getElem?_getD, List.getElem?_append_left h]
theorem pG_last {p : List Int} {x : Int} : pG (p ++ [x]) p.length = x := pG_of (by rw [List.getElem?_append_right (Nat.le_refl _), Nat.sub_self]; rfl)
def atI0 (row : List Int) (x : Int) : Int := pG row x.toNat
def okAt (row pat places : List Int) (x : Int) : Bool :=
  (List.range places.length).all fun j => if pG pat j < pG pat places.length then decide (atI0 row (pG places j) < atI0 row x) else decide (atI0 row x < atI0 row (pG places j))
def startOf (places : List Int) : Int := match places.getLast? with | none => 0 | some x => x + 1
def irange (lo hi : Int) : List Int := (List.range (hi - lo).toNat).map fun i : Nat => lo + (i : Int)
def nextsP (row pat places : List Int) : List Int := (irange (startOf places) (row.length - (pat.length - places.length) + 1)).filter (okAt row pat places)
def ext (row pat : List Int) : Nat → List Int → List (List Int)
  | 0, _ => []
  | f + 1, places => if places.length = pat.length then [places] else (nextsP row pat places).flatMap fun x => ext row pat f (places ++ [x])
theorem mem_irange {lo hi x : Int} : x ∈ irange lo hi ↔ lo ≤ x ∧ x < hi := by
  unfold irange
  rw [List.mem_map]
  constructor
  · intro ⟨i, hi, e⟩
    have := List.mem_range.mp hi
    omega
  · intro h
    exact ⟨(x - lo).toNat, List.mem_range.mpr (by omega), by omega⟩
theorem irange_nodup (lo hi : Int) : (irange lo hi).Nodup := by
  unfold irange
  rw [List.Nodup, List.pairwise_map]
  exact List.Pairwise.imp (fun h e => h (by omega)) List.nodup_range
/-- places so far, in order and standing like the pattern -/
structure Pl (row pat x : List Int) : Prop where
  le : x.length ≤ pat.length
  bd : ∀ i, i < x.length → 0 ≤ pG x i ∧ pG x i < row.length
  up : ∀ i j, i < j → j < x.length → pG x i < pG x j
  is : ∀ i j, i < j → j < x.length → if pG pat i < pG pat j then atI0 row (pG x i) < atI0 row (pG x j) else atI0 row (pG x j) < atI0 row (pG x i)
theorem Pl.nil (row pat : List Int) : Pl row pat [] := ⟨Nat.zero_le _, fun _ h => absurd h (Nat.not_lt_zero _), fun _ _ _ h => absurd h (Nat.not_lt_zero _), fun _ _ _ h => absurd h (Nat.not_lt_zero _)⟩
theorem start_last {places : List Int} (h : 0 < places.length) : startOf places = pG places (places.length - 1) + 1 := by
  unfold startOf
  rw [List.getLast?_eq_getElem?, pG_get (by omega)]
theorem start_nil : startOf [] = 0 := rfl
theorem okAt_iff {row pat places : List Int} {x : Int} : okAt row pat places x = true ↔ ∀ j, j < places.length → if pG pat j < pG pat places.length then atI0 row (pG places j) < atI0 row x else atI0 row x < atI0 row (pG places j) := by
  unfold okAt
  rw [List.all_eq_true]
  constructor
  · intro h j hj
    have := h j (List.mem_range.mpr hj)
    split
    · rename_i c
      rw [if_pos c] at this
      exact of_decide_eq_true this
    · rename_i c
      rw [if_neg c] at this
      exact of_decide_eq_true this
  · intro h j hj
    have := h j (List.mem_range.mp hj)
    split
    · rename_i c
      rw [if_pos c] at this
      exact decide_eq_true this
    · rename_i c
      rw [if_neg c] at this
      exact decide_eq_true this
theorem Pl.add {row pat places : List Int} {x : Int} (h : Pl row pat places) (hl : places.length < pat.length) (hx : x ∈ nextsP row pat places) : Pl row pat (places ++ [x]) := by
  obtain ⟨h1, h2⟩ := List.mem_filter.mp hx
  have h1 := mem_irange.mp h1
  have h2 := okAt_iff.mp h2
  have s0 : 0 ≤ startOf places ∧ ∀ j, j < places.length → pG places j < x := by
    by_cases c : 0 < places.length
    · have e := start_last c
      have b := h.bd (places.length - 1) (by omega)
      refine ⟨by omega, fun j hj => ?_⟩
      by_cases hc : j = places.length - 1
      · subst hc
        omega
      · have := h.up j (places.length - 1) (by omega) (by omega)
        omega
    · have : places = [] := List.length_eq_zero_iff.mp (by omega)
      subst this
      exact ⟨Int.le_refl _, fun j hj => absurd hj (Nat.not_lt_zero _)⟩
  have len : (places ++ [x]).length = places.length + 1 := by rw [List.length_append]; rfl
  refine ⟨by omega, fun i hi => ?_, fun i j hij hj => ?_, fun i j hij hj => ?_⟩
  · by_cases c : i < places.length
    · rw [pG_app c]
      exact h.bd i c
    · have : i = places.length := by omega
      subst this
      rw [pG_last]
      omega
  · rw [pG_app (by omega)]
    by_cases c : j < places.length
    · rw [pG_app c]
      exact h.up i j hij c
    · have : j = places.length := by omega
      subst this
      rw [pG_last]
      exact s0.2 i hij
  · rw [pG_app (by omega)]
    by_cases c : j < places.length
    · rw [pG_app c]
      exact h.is i j hij c
    · have : j = places.length := by omega
      subst this
      rw [pG_last]
      exact h2 i hij
theorem Pl.gap {row pat x : List Int} (h : Pl row pat x) (k : Nat) : ∀ d : Nat, k + d < x.length → pG x k + (d : Int) ≤ pG x (k + d)
  | 0, _ => by simp
  | d + 1, hd => by
    have h1 := h.gap k d (by omega)
    have h2 := h.up (k + d) (k + (d + 1)) (by omega) hd
    omega
theorem pre_ext {row pat : List Int} : ∀ (f : Nat) (places x : List Int), x ∈ ext row pat f places → places <+: x
  | 0, _, _, h => nomatch h
  | f + 1, places, x, h => by
    unfold ext at h
    split at h
    · rw [List.mem_singleton] at h
      rw [h]
      exact List.prefix_refl _
    · obtain ⟨v, _, h2⟩ := List.mem_flatMap.mp h
      exact (List.prefix_append _ _).trans (pre_ext f _ x h2)
theorem pre_pG {p x : List Int} (h : p <+: x) {i : Nat} (hi : i < p.length) : pG x i = pG p i := by
  obtain ⟨t, rfl⟩ := h
  rw [pG, pG, List.getD_eq_getElem?_getD, List.getD_eq_getElem?_getD, List.getElem?_append_left hi]
theorem ext_nodup {row pat : List Int} : ∀ (f : Nat) (places : List Int), (ext row pat f places).Nodup
  | 0, _ => List.nodup_nil
  | f + 1, places => by
    unfold ext
    split
    · exact List.nodup_cons.mpr ⟨fun h => (nomatch h), List.nodup_nil⟩
    · rw [List.Nodup, List.pairwise_flatMap]
      refine ⟨fun v _ => ext_nodup f _, ?_⟩
      refine List.Pairwise.imp (fun {a b} hab x hx y hy e => ?_) ((irange_nodup _ _).filter _)
      subst e
      have h1 := pre_pG (pre_ext f _ _ hx) (i := places.length) (by rw [List.length_append]; exact Nat.lt_succ_self _)
      have h2 := pre_pG (pre_ext f _ _ hy) (i := places.length) (by rw [List.length_append]; exact Nat.lt_succ_self _)
      rw [pG_last] at h1 h2
      exact hab (h1.symm.trans h2)
theorem mem_ext {row pat : List Int} : ∀ (f : Nat) (places x : List Int), Pl row pat places → pat.length < f + places.length → (x ∈ ext row pat f places ↔ Pl row pat x ∧ x.length = pat.length ∧ places <+: x)
  | 0, places, x, h, hf => absurd h.le (by omega)
  | f + 1, places, x, h, hf => by
    unfold ext
    split
    · rename_i c
      rw [List.mem_singleton]
      constructor
      · intro e
        subst e
        exact ⟨h, c, List.prefix_refl _⟩
      · intro ⟨_, h2, h3⟩
        exact (h3.eq_of_length (c.trans h2.symm)).symm
    · rename_i c
      have hl : places.length < pat.length := by have := h.le; omega
      rw [List.mem_flatMap]
      constructor
      · intro ⟨v, h1, h2⟩
        obtain ⟨a, b, d⟩ := (mem_ext f (places ++ [v]) x (h.add hl h1) (by rw [List.length_append]; show _ < f + (places.length + 1); omega)).mp h2
        exact ⟨a, b, (List.prefix_append _ _).trans d⟩
      · intro ⟨a, b, d⟩
        have e : places ++ [pG x places.length] <+: x := by
          obtain ⟨t, rfl⟩ := d
          cases t with
          | nil => rw [List.append_nil] at b; exact absurd b c
          | cons y t =>
            have : pG (places ++ y :: t) places.length = y := pG_of (by rw [List.getElem?_append_right (Nat.le_refl _), Nat.sub_self]; rfl)
            rw [this]
            exact ⟨t, by rw [List.append_assoc]; rfl⟩
        have hv : pG x places.length ∈ nextsP row pat places := by
          refine List.mem_filter.mpr ⟨mem_irange.mpr ⟨?_, ?_⟩, okAt_iff.mpr fun j hj => ?_⟩
          · by_cases c0 : 0 < places.length
            · rw [start_last c0, ← pre_pG d (by omega)]
              have := a.up (places.length - 1) places.length (by omega) (by omega)
              omega
            · have e0 : places = [] := List.length_eq_zero_iff.mp (by omega)
              subst e0
              exact (a.bd 0 (by rw [b]; exact hl)).1
          · have g := a.gap places.length (pat.length - 1 - places.length) (by omega)
            have u := (a.bd (places.length + (pat.length - 1 - places.length)) (by omega)).2
            omega
          · have := a.is j places.length hj (by omega)
            rw [pre_pG d hj] at this
            exact this
        exact ⟨_, hv, (mem_ext f _ x (h.add hl hv) (by rw [List.length_append]; show _ < f + (places.length + 1); omega)).mpr ⟨a, b, e⟩⟩
theorem Pl.start0 {row pat places : List Int} (hp : Pl row pat places) : 0 ≤ startOf places := by
  by_cases c0 : 0 < places.length
  · have := (hp.bd (places.length - 1) (by omega)).1
    rw [start_last c0]
    omega
  · have e0 : places = [] := List.length_eq_zero_iff.mp (by omega)
    subst e0
    exact Int.le_refl _
theorem Pl.start1 {row pat places : List Int} (hp : Pl row pat places) : startOf places ≤ row.length := by
  by_cases c0 : 0 < places.length
  · have := (hp.bd (places.length - 1) (by omega)).2
    rw [start_last c0]
    omega
  · have e0 : places = [] := List.length_eq_zero_iff.mp (by omega)
    subst e0
    exact Int.natCast_nonneg _
/-! ### how many -/
theorem nodup_len_le {α β : Type} [DecidableEq β] (φ : α → β) : ∀ (l : List α) (m : List β), l.Nodup → (∀ x ∈ l, φ x ∈ m) → (∀ x ∈ l, ∀ y ∈ l, φ x = φ y → x = y) → l.length ≤ m.length
  | [], m, _, _, _ => Nat.zero_le _
  | a :: l, m, hn, hs, hi => by
    rw [List.nodup_cons] at hn
    have ha := hs a List.mem_cons_self
    have h1 := (List.perm_cons_erase ha).length_eq
    have := nodup_len_le φ l (m.erase (φ a)) hn.2 (fun x hx => by
      have hne : φ x ≠ φ a := fun z => hn.1 (hi x (List.mem_cons_of_mem _ hx) a List.mem_cons_self z ▸ hx)
      exact (List.mem_erase_of_ne hne).mpr (hs x (List.mem_cons_of_mem _ hx))) (fun x hx y hy => hi x (List.mem_cons_of_mem _ hx) y (List.mem_cons_of_mem _ hy))
    rw [List.length_cons] at h1 ⊢
    omega
def plc (row pat : List Int) : List (List Int) := ext row pat (pat.length + 1) []
theorem mem_plc {row pat x : List Int} : x ∈ plc row pat ↔ Pl row pat x ∧ x.length = pat.length := by
  unfold plc
  rw [mem_ext _ _ _ (Pl.nil row pat) (by show _ < _ + 0; omega)]
  exact ⟨fun ⟨a, b, _⟩ => ⟨a, b⟩, fun ⟨a, b⟩ => ⟨a, b, List.nil_prefix⟩⟩
theorem plc_le {row pat row' pat' : List Int} (φ : List Int → List Int) (h : ∀ x, Pl row pat x → x.length = pat.length → Pl row' pat' (φ x) ∧ (φ x).length = pat'.length)
    (hi : ∀ x y, Pl row pat x → x.length = pat.length → Pl row pat y → y.length = pat.length → φ x = φ y → x = y) : (plc row pat).length ≤ (plc row' pat').length :=
  nodup_len_le φ _ _ (ext_nodup _ _) (fun x hx => mem_plc.mpr (h x (mem_plc.mp hx).1 (mem_plc.mp hx).2)) fun x hx y hy => hi x y (mem_plc.mp hx).1 (mem_plc.mp hx).2 (mem_plc.mp hy).1 (mem_plc.mp hy).2
/-- with fuel enough it is the same -/
theorem ext_fuel {row pat : List Int} : ∀ (f g : Nat) (places : List Int), pat.length < f + places.length → pat.length < g + places.length → places.length ≤ pat.length → ext row pat f places = ext row pat g places
  | 0, _, _, h, _, hl => by omega
  | f + 1, 0, _, _, h, hl => by omega
  | f + 1, g + 1, places, hf, hg, hl => by
    unfold ext
    split
    · rfl
    · rename_i c
      congr 1
      funext v
      have e : (places ++ [v]).length = places.length + 1 := by rw [List.length_append]; rfl
      exact ext_fuel f g _ (by omega) (by omega) (by omega)
/-! ### never too many -/
def bnd : Nat → Nat → Nat
  | 0, _ => 1
  | _ + 1, 0 => 0
  | m + 1, a + 1 => bnd m a + bnd (m + 1) a
theorem sum_filter_le {α : Type} (F : α → Nat) (t : α → Bool) : ∀ l : List α, ((l.filter t).map F).sum ≤ (l.map F).sum
  | [] => Nat.le_refl _
  | a :: l => by
    have := sum_filter_le F t l
    rw [List.filter_cons]
    split
    · simp only [List.map_cons, List.sum_cons]
      omega
    · simp only [List.map_cons, List.sum_cons]
      omega
theorem sum_le {α : Type} (F G : α → Nat) : ∀ l : List α, (∀ x ∈ l, F x ≤ G x) → (l.map F).sum ≤ (l.map G).sum
  | [], _ => Nat.le_refl _
  | a :: l, h => by
    have := sum_le F G l fun x hx => h x (List.mem_cons_of_mem _ hx)
    have := h a List.mem_cons_self
    simp only [List.map_cons, List.sum_cons]
    omega
theorem irange_nil {lo hi : Int} (h : hi ≤ lo) : irange lo hi = [] := by
  unfold irange
  rw [show (hi - lo).toNat = 0 by omega]
  rfl
theorem irange_cons {lo hi : Int} (h : lo < hi) : irange lo hi = lo :: irange (lo + 1) hi := by
  unfold irange
  rw [show (hi - lo).toNat = (hi - (lo + 1)).toNat + 1 by omega, List.range_succ_eq_map, List.map_cons, List.map_map]
  congr 1
  · omega
  · apply List.map_congr_left
    intro i _
    simp only [Function.comp]
    omega
theorem bnd_sum (m : Nat) (n : Nat) (hi : Int) (hn : hi ≤ n) : ∀ (c : Nat) (lo : Int), 0 ≤ lo → (hi - lo).toNat = c → ((irange lo hi).map fun v => bnd m ((n : Int) - 1 - v).toNat).sum ≤ bnd (m + 1) ((n : Int) - lo).toNat
  | 0, lo, _, h => by
    rw [irange_nil (by omega)]
    exact Nat.zero_le _
  | c + 1, lo, h0, h => by
    rw [irange_cons (by omega), List.map_cons, List.sum_cons]
    have := bnd_sum m n hi hn c (lo + 1) (by omega) (by omega)
    rw [show ((n : Int) - lo).toNat = ((n : Int) - 1 - lo).toNat + 1 by omega]
    show _ ≤ bnd m _ + bnd (m + 1) _
    rw [show ((n : Int) - (lo + 1)).toNat = ((n : Int) - 1 - lo).toNat by omega] at this
    omega
theorem ext_bnd {row pat : List Int} : ∀ (f : Nat) (places : List Int), Pl row pat places → (ext row pat f places).length ≤ bnd (pat.length - places.length) ((row.length : Int) - startOf places).toNat
  | 0, places, _ => Nat.zero_le _
  | f + 1, places, hp => by
    unfold ext
    split
    · rename_i c
      rw [c, Nat.sub_self]
      unfold bnd
      exact Nat.le_refl _
    · rename_i c
      have hl : places.length < pat.length := by have := hp.le; omega
      have s0 : 0 ≤ startOf places := by
        by_cases c0 : 0 < places.length
        · have := (hp.bd (places.length - 1) (by omega)).1
          rw [start_last c0]
          omega
        · have e0 : places = [] := List.length_eq_zero_iff.mp (by omega)
          subst e0
          exact Int.le_refl _
      rw [List.length_flatMap]
      refine Nat.le_trans (sum_le _ (fun v => bnd (pat.length - (places.length + 1)) ((row.length : Int) - 1 - v).toNat) _ fun v hv => ?_) ?_
      · have h1 := ext_bnd f (places ++ [v]) (hp.add hl hv)
        have e : (places ++ [v]).length = places.length + 1 := by rw [List.length_append]; rfl
        rw [e, start_last (by omega), e, show places.length + 1 - 1 = places.length from rfl, pG_last] at h1
        rw [show (row.length : Int) - 1 - v = row.length - (v + 1) by omega]
        exact h1
      · refine Nat.le_trans (sum_filter_le _ _ _) ?_
        rw [show pat.length - places.length = pat.length - (places.length + 1) + 1 by omega]
        exact bnd_sum _ _ _ (by omega) _ _ s0 rfl
theorem bnd_small : ∀ m : Nat, m < 6 → ∀ n : Nat, n < 10 → bnd m n ≤ 126 := by decide
theorem plc_few {row pat : List Int} (h1 : row.length ≤ 9) (h2 : pat.length ≤ 5) : (plc row pat).length ≤ 126 := by
  refine Nat.le_trans (ext_bnd _ _ (Pl.nil row pat)) (bnd_small _ ?_ _ ?_)
  · show pat.length - 0 < 6
    omega
  · rw [start_nil]
    omega
/-! ### as many by the turnings -/
theorem pG_nodup {p : List Int} (h : p.Nodup) {i j : Nat} (hi : i < p.length) (hj : j < p.length) (e : pG p i = pG p j) : i = j :=
  nodup_get h (pG_get hi) (by rw [e]; exact pG_get hj)
theorem pG_row {p : List Int} (h : IsRow p) {i : Nat} (hi : i < p.length) : 0 ≤ pG p i ∧ pG p i < p.length := h.mem.mp (List.mem_of_getElem? (pG_get hi))
theorem pG_flip {p : List Int} {i : Nat} (hi : i < p.length) : pG (flipI p) i = p.length - 1 - pG p i := by
  apply pG_of
  unfold flipI
  rw [List.getElem?_map, pG_get hi]
  rfl
theorem pG_rev {p : List Int} {i : Nat} (hi : i < p.length) : pG p.reverse i = pG p (p.length - 1 - i) := by
  apply pG_of
  rw [List.getElem?_reverse hi]
  exact pG_get (by omega)
theorem pG_inv {p q : List Int} (hp : IsRow p) (h : IsInv p q) {i : Nat} (hi : i < p.length) : pG q (pG p i).toNat = i := pG_of (h.2 i _ (pG_get hi))
theorem Pl.flip {row pat x : List Int} (hn : pat.Nodup) (h : Pl row pat x) : Pl (flipI row) (flipI pat) x := by
  have at_ : ∀ i, i < x.length → atI0 (flipI row) (pG x i) = row.length - 1 - atI0 row (pG x i) := fun i hi => by
    have := h.bd i hi
    exact pG_flip (by omega)
  have le := h.le
  refine ⟨by rw [flip_len]; exact h.le, fun i hi => by rw [flip_len]; exact h.bd i hi, h.up, fun i j hij hj => ?_⟩
  rw [at_ i (by omega), at_ j hj, pG_flip (p := pat) (by omega), pG_flip (p := pat) (by omega)]
  have := h.is i j hij hj
  have ne : pG pat i ≠ pG pat j := fun e => by
    have := pG_nodup hn (by omega) (by omega) e
    omega
  split at this
  · rw [if_neg (by omega)]
    omega
  · rw [if_pos (by omega)]
    omega
theorem flip_nodup {p : List Int} (h : p.Nodup) : (flipI p).Nodup := by
  unfold flipI
  rw [List.Nodup, List.pairwise_map]
  exact List.Pairwise.imp (fun h e => h (by omega)) h
theorem plc_flip {row pat : List Int} (hn : pat.Nodup) : (plc (flipI row) (flipI pat)).length = (plc row pat).length := by
  apply Nat.le_antisymm
  · have := plc_le (row := flipI row) (pat := flipI pat) (row' := flipI (flipI row)) (pat' := flipI (flipI pat)) id (fun x a b => ⟨a.flip (flip_nodup hn), by rw [flip_flip, ← flip_len pat]; exact b⟩) fun x y _ _ _ _ e => e
    rw [flip_flip, flip_flip] at this
    exact this
  · exact plc_le id (fun x a b => ⟨a.flip hn, by rw [flip_len]; exact b⟩) fun x y _ _ _ _ e => e
def revX (n : Nat) (x : List Int) : List Int := (x.map fun v : Int => (n : Int) - 1 - v).reverse
theorem revX_len (n : Nat) (x : List Int) : (revX n x).length = x.length := by rw [revX, List.length_reverse, List.length_map]
theorem pG_revX {n : Nat} {x : List Int} {i : Nat} (hi : i < x.length) : pG (revX n x) i = n - 1 - pG x (x.length - 1 - i) := by
  unfold revX
  rw [pG_rev (by rw [List.length_map]; exact hi), List.length_map]
  apply pG_of
  rw [List.getElem?_map, pG_get (by omega)]
  rfl
theorem Pl.rev {row pat x : List Int} (hn : pat.Nodup) (h : Pl row pat x) (hl : x.length = pat.length) : Pl row.reverse pat.reverse (revX row.length x) := by
  have at_ : ∀ i, i < x.length → atI0 row.reverse (pG (revX row.length x) i) = atI0 row (pG x (x.length - 1 - i)) := fun i hi => by
    have := h.bd (x.length - 1 - i) (by omega)
    rw [pG_revX hi]
    unfold atI0
    rw [pG_rev (by omega)]
    congr 1
    omega
  refine ⟨by rw [revX_len, List.length_reverse]; exact h.le, fun i hi => ?_, fun i j hij hj => ?_, fun i j hij hj => ?_⟩
  · rw [revX_len] at hi
    have := h.bd (x.length - 1 - i) (by omega)
    rw [pG_revX hi, List.length_reverse]
    omega
  · rw [revX_len] at hj
    rw [pG_revX (by omega), pG_revX hj]
    have := h.up (x.length - 1 - j) (x.length - 1 - i) (by omega) (by omega)
    omega
  · rw [revX_len] at hj
    rw [at_ i (by omega), at_ j hj, pG_rev (by omega), pG_rev (by omega), ← hl]
    have := h.is (x.length - 1 - j) (x.length - 1 - i) (by omega) (by omega)
    have ne : pG pat (x.length - 1 - j) ≠ pG pat (x.length - 1 - i) := fun e => by
      have := pG_nodup hn (by omega) (by omega) e
      omega
    split at this
    · rw [if_neg (by omega)]
      omega
    · rw [if_pos (by omega)]
      omega
theorem revX_one {n : Nat} {x y : List Int} (e : revX n x = revX n y) : x = y := by
  unfold revX at e
  have e := List.reverse_inj.mp e
  exact (List.map_inj_right (fun a b h => by omega)).mp e
theorem plc_rev {row pat : List Int} (hn : pat.Nodup) : (plc row.reverse pat.reverse).length = (plc row pat).length := by
  apply Nat.le_antisymm
  · have := plc_le (row := row.reverse) (pat := pat.reverse) (row' := row.reverse.reverse) (pat' := pat.reverse.reverse) (revX row.reverse.length) (fun x a b => ⟨a.rev (List.pairwise_reverse.mpr (List.Pairwise.imp Ne.symm hn)) b, by rw [revX_len, b, List.length_reverse, List.length_reverse, List.length_reverse]⟩) fun x y _ _ _ _ e => revX_one e
    rw [List.reverse_reverse, List.reverse_reverse] at this
    exact this
  · exact plc_le (revX row.length) (fun x a b => ⟨a.rev hn b, by rw [revX_len, b, List.length_reverse]⟩) fun x y _ _ _ _ e => revX_one e
def invX (row b x : List Int) : List Int := b.map fun i => atI0 row (pG x i.toNat)
theorem pG_invX {row b x : List Int} {i : Nat} (hi : i < b.length) : pG (invX row b x) i = atI0 row (pG x (pG b i).toNat) := by
  apply pG_of
  unfold invX
  rw [List.getElem?_map, pG_get hi]
  rfl
theorem Pl.inv {row pat x q b : List Int} (hr : IsRow row) (hp : IsRow pat) (hq : IsInv row q) (hb : IsInv pat b) (h : Pl row pat x) (hl : x.length = pat.length) : Pl q b (invX row b x) := by
  have rb := hb.row hp
  have hb' := hb.symm hp
  have len : (invX row b x).length = b.length := by unfold invX; rw [List.length_map]
  have ix : ∀ i, i < b.length → (pG b i).toNat < x.length ∧ pG pat (pG b i).toNat = i := fun i hi => by
    have h1 := pG_row rb hi
    have h2 := pG_inv rb hb' hi
    have h3 := hb.1
    exact ⟨by omega, h2⟩
  have back : ∀ i, i < b.length → pG q (pG (invX row b x) i).toNat = pG x (pG b i).toNat := fun i hi => by
    have h1 := h.bd _ (ix i hi).1
    rw [pG_invX hi]
    unfold atI0
    rw [pG_inv hr hq (by omega)]
    omega
  refine ⟨by omega, fun i hi => ?_, fun i j hij hj => ?_, fun i j hij hj => ?_⟩
  · rw [len] at hi
    have h1 := h.bd _ (ix i hi).1
    rw [pG_invX hi, hq.1]
    exact pG_row hr (by omega)
  · rw [len] at hj
    have hi : i < b.length := by omega
    rw [pG_invX hi, pG_invX hj]
    have e1 := (ix i hi).2
    have e2 := (ix j hj).2
    by_cases c : (pG b i).toNat < (pG b j).toNat
    · have := h.is _ _ c (ix j hj).1
      rw [if_pos (by omega)] at this
      exact this
    · have ne : (pG b j).toNat ≠ (pG b i).toNat := fun e => by rw [e] at e2; omega
      have := h.is (pG b j).toNat (pG b i).toNat (by omega) (ix i hi).1
      rw [if_neg (by omega)] at this
      exact this
  · rw [len] at hj
    have hi : i < b.length := by omega
    have b1 := pG_row rb hi
    have b2 := pG_row rb hj
    show if pG b i < pG b j then pG q (pG (invX row b x) i).toNat < pG q (pG (invX row b x) j).toNat else pG q (pG (invX row b x) j).toNat < pG q (pG (invX row b x) i).toNat
    rw [back i hi, back j hj]
    split
    · exact h.up _ _ (by omega) (ix j hj).1
    · have ne : pG b i ≠ pG b j := fun e => by
        have := pG_nodup rb.nodup hi hj e
        omega
      exact h.up _ _ (by omega) (ix i hi).1
theorem invX_one {row pat b x y : List Int} (hr : IsRow row) (hp : IsRow pat) (hb : IsInv pat b) (hx : Pl row pat x) (hxl : x.length = pat.length) (hy : Pl row pat y) (hyl : y.length = pat.length) (e : invX row b x = invX row b y) : x = y := by
  apply List.ext_getElem?
  intro i
  by_cases hi : i < pat.length
  · have h1 := pG_row hp hi
    have h2 := pG_inv hp hb hi
    have hb1 := hb.1
    have e2 : pG (invX row b x) (pG pat i).toNat = pG (invX row b y) (pG pat i).toNat := by rw [e]
    rw [pG_invX (by omega), pG_invX (by omega), h2, Int.toNat_natCast] at e2
    have x1 := hx.bd i (by omega)
    have y1 := hy.bd i (by omega)
    have := pG_nodup hr.nodup (by omega) (by omega) e2
    rw [pG_get (by omega), pG_get (by omega)]
    congr 1
    omega
  · rw [List.getElem?_eq_none (by omega), List.getElem?_eq_none (by omega)]
theorem plc_inv_le {row pat q b : List Int} (hr : IsRow row) (hp : IsRow pat) (hq : IsInv row q) (hb : IsInv pat b) : (plc row pat).length ≤ (plc q b).length :=
  plc_le (invX row b) (fun x h1 h2 => ⟨h1.inv hr hp hq hb h2, by unfold invX; rw [List.length_map]⟩) fun x y h1 h2 h3 h4 e => invX_one hr hp hb h1 h2 h3 h4 e
theorem plc_inv {row pat q b : List Int} (hr : IsRow row) (hp : IsRow pat) (hq : IsInv row q) (hb : IsInv pat b) : (plc q b).length = (plc row pat).length :=
  Nat.le_antisymm (plc_inv_le (hq.row hr) (hb.row hp) (hq.symm hr) (hb.symm hp)) (plc_inv_le hr hp hq hb)
end Tr

namespace Tr
open PySem L2
section
variable {row pat places : List Int}
theorem eqv_tnil (a : List Int) : PyData.eqv (.tuple (a.map PyData.int)) (.tuple []) = decide (a = []) := eqv_tI a []
end
section
variable {row pat places : List Int}
def tupD (x : List Int) : D := .tuple (x.map PyData.int)
end
section
variable {row pat places : List Int}
theorem sort_ints (l : List Int) : ∃ m : List Int, sortD (l.map PyData.int) = m.map PyData.int ∧ m.Perm l := by
  refine ⟨l.mergeSort fun a b => PySem.W.dataLe false id (.int a) (.int b), ?_, List.mergeSort_perm _ _⟩
  unfold sortD
  exact (List.map_mergeSort (f := PyData.int) (l := l) fun a _ b _ => rfl).symm
end
section
variable {row pat places : List Int}
def idxI (m : List Int) (x : Int) : Nat := m.findIdx fun z => z == x
end
section
variable {row pat places : List Int}
theorem idxI_lt {m : List Int} {x : Int} (h : x ∈ m) : idxI m x < m.length := List.findIdx_lt_length_of_exists ⟨x, h, beq_self_eq_true x⟩
end
section
variable {row pat places : List Int}
theorem idxI_get {m : List Int} {x : Int} (h : x ∈ m) : m[idxI m x]? = some x := by
  rw [List.getElem?_eq_getElem (idxI_lt h)]
  have := List.findIdx_getElem (w := idxI_lt h) (p := fun z => z == x) (xs := m)
  exact congrArg some (eq_of_beq this)
end
section
variable {row pat places : List Int}
theorem firstAt_ints {m : List Int} {x : Int} (h : x ∈ m) : firstAt (m.map PyData.int) (.int x) = some (idxI m x) := by
  unfold firstAt
  rw [List.findIdx?_map]
  exact List.findIdx?_eq_some_of_exists ⟨x, h, beq_self_eq_true x⟩
end
section
variable {row pat places : List Int}
theorem sort_side (l : List Int) : (PyData.hasDictAll (l.map PyData.int) = false ∧ PySem.W.AllAlike (l.map PyData.int) ∧ PySem.W.Sortable (l.map PyData.int)) ∧ ∀ d ∈ l.map PyData.int, d.depth ≤ 60 := by
  refine ⟨⟨hasDict_ints l, PySem.W.AllAlike.of fun _ _ => rfl, PySem.W.Sortable.others fun b => ⟨nofun, nofun⟩⟩, fun d hd => ?_⟩
  obtain ⟨x, _, rfl⟩ := List.mem_map.mp hd
  exact Nat.zero_le _
end
section
variable {row pat places : List Int}
theorem cutD_pre (ds : List D) (n : Nat) (h : n ≤ ds.length) : cutD ds none (some (n : Int)) = ds.take n := by
  unfold cutD
  rw [HT.sIx_none, show HT.sIx ds.length ds.length (some (n : Int)) = min n ds.length from HT.sIx_nat ds.length ds.length n, Nat.min_eq_left h]
  simp
end
section
variable {row pat places : List Int}
theorem max_of : ∀ (r : List Int) (x : Int), r.foldl max x ∈ x :: r ∧ ∀ y ∈ x :: r, y ≤ r.foldl max x
  | [], x => ⟨List.mem_cons_self, fun y hy => by rw [List.mem_singleton.mp hy]; exact Int.le_refl _⟩
  | a :: r, x => by
    obtain ⟨h1, h2⟩ := max_of r (max x a)
    have h3 := h2 _ List.mem_cons_self
    refine ⟨?_, fun y hy => ?_⟩
    · show r.foldl max (max x a) ∈ _
      rcases List.mem_cons.mp h1 with e | e
      · rw [e]
        by_cases c : x ≤ a
        · rw [Int.max_eq_right c]; exact List.mem_cons_of_mem _ List.mem_cons_self
        · rw [Int.max_eq_left (by omega)]; exact List.mem_cons_self
      · exact List.mem_cons_of_mem _ (List.mem_cons_of_mem _ e)
    · show y ≤ r.foldl max (max x a)
      rcases List.mem_cons.mp hy with e | e
      · rw [e]; omega
      · rcases List.mem_cons.mp e with e | e
        · rw [e]; omega
        · exact h2 y (List.mem_cons_of_mem _ e)
end
section
variable {row pat places : List Int}
theorem min_of : ∀ (r : List Int) (x : Int), r.foldl min x ∈ x :: r ∧ ∀ y ∈ x :: r, r.foldl min x ≤ y
  | [], x => ⟨List.mem_cons_self, fun y hy => by rw [List.mem_singleton.mp hy]; exact Int.le_refl _⟩
  | a :: r, x => by
    obtain ⟨h1, h2⟩ := min_of r (min x a)
    have h3 := h2 _ List.mem_cons_self
    refine ⟨?_, fun y hy => ?_⟩
    · show r.foldl min (min x a) ∈ _
      rcases List.mem_cons.mp h1 with e | e
      · rw [e]
        by_cases c : x ≤ a
        · rw [Int.min_eq_left c]; exact List.mem_cons_self
        · rw [Int.min_eq_right (by omega)]; exact List.mem_cons_of_mem _ List.mem_cons_self
      · exact List.mem_cons_of_mem _ (List.mem_cons_of_mem _ e)
    · show r.foldl min (min x a) ≤ y
      rcases List.mem_cons.mp hy with e | e
      · rw [e]; omega
      · rcases List.mem_cons.mp e with e | e
        · rw [e]; omega
        · exact h2 y (List.mem_cons_of_mem _ e)
end
section
variable {row pat places : List Int}
theorem depth_ints : ∀ l : List Int, PyData.depthAll (l.map PyData.int) = 0
  | [] => rfl
  | a :: l => by
    rw [List.map_cons, PyData.depthAll, depth_ints l]
    rfl
end
section
variable {row pat places : List Int}
theorem ord1_ints (x : Int) (r : List Int) : Ord1 (.int x :: r.map PyData.int) := by
  refine ⟨⟨shp_lI (x :: r), ?_⟩, fun a ha b hb => ?_, fun a ha => ?_⟩
  · rw [show PyData.int x :: r.map PyData.int = (x :: r).map PyData.int from rfl, depth_ints]
    decide
  · obtain ⟨y, _, rfl⟩ := List.mem_map.mp (show a ∈ (x :: r).map PyData.int from ha)
    obtain ⟨z, _, rfl⟩ := List.mem_map.mp (show b ∈ (x :: r).map PyData.int from hb)
    rfl
  · obtain ⟨y, _, rfl⟩ := List.mem_map.mp (show a ∈ (x :: r).map PyData.int from ha)
    exact nofun
end
section
variable {row pat places : List Int}
theorem cutD_tk (ds : List D) (n : Nat) : cutD ds none (some (n : Int)) = ds.take n := by
  unfold cutD
  rw [HT.sIx_none, show HT.sIx ds.length ds.length (some (n : Int)) = min n ds.length from HT.sIx_nat ds.length ds.length n]
  rw [List.drop_zero, Nat.sub_zero]
  by_cases h : n ≤ ds.length
  · rw [Nat.min_eq_left h]
  · rw [Nat.min_eq_right (by omega), List.take_of_length_le (Nat.le_refl _), List.take_of_length_le (by omega)]
end
section
variable {row pat places : List Int}
theorem cutD_dr (ds : List D) (n : Nat) : cutD ds (some (n : Int)) none = ds.drop n := by
  unfold cutD
  rw [HT.sIx_none, show HT.sIx ds.length 0 (some (n : Int)) = min n ds.length from HT.sIx_nat ds.length 0 n]
  by_cases h : n ≤ ds.length
  · rw [Nat.min_eq_left h, List.take_of_length_le (by rw [List.length_drop]; omega)]
  · rw [Nat.min_eq_right (by omega), List.drop_length, List.drop_eq_nil_of_le (by omega), List.take_nil]
end
section
variable {row pat places : List Int}
theorem cutD_mid (ds : List D) (b k : Nat) (h : b ≤ k) (hk : k ≤ ds.length) : cutD ds (some (b : Int)) (some (k : Int)) = (ds.take k).drop b := by
  unfold cutD
  rw [show HT.sIx ds.length 0 (some (b : Int)) = min b ds.length from HT.sIx_nat ds.length 0 b, show HT.sIx ds.length ds.length (some (k : Int)) = min k ds.length from HT.sIx_nat ds.length ds.length k, Nat.min_eq_left hk, Nat.min_eq_left (by omega), List.drop_take]
end
section
variable {row pat places : List Int}
theorem sort_le (l : List Int) : ∃ m : List Int, sortD (l.map PyData.int) = m.map PyData.int ∧ m.Perm l ∧ m.Pairwise (· ≤ ·) := by
  refine ⟨l.mergeSort fun a b => decide (a ≤ b), ?_, List.mergeSort_perm _ _, ?_⟩
  · unfold sortD
    refine (List.map_mergeSort (f := PyData.int) (l := l) fun a _ b _ => ?_).symm
    exact (congrFun (congrFun (PySem.W.dataLe_int (fun x : Int => x)) a) b).symm
  · have h := List.pairwise_mergeSort (le := fun a b : Int => decide (a ≤ b)) (fun a b c h1 h2 => decide_eq_true (Int.le_trans (of_decide_eq_true h1) (of_decide_eq_true h2))) (fun a b => by
      rw [Bool.or_eq_true, decide_eq_true_eq, decide_eq_true_eq]
      omega) l
    exact h.imp fun h => of_decide_eq_true h
end
section
variable {row pat places : List Int}
theorem sort_row {q : List Int} (hq : IsRow q) (c : Int) : sortD ((q.map fun x => x + c).map PyData.int) = ((List.range q.length).map fun i : Nat => (i : Int) + c).map PyData.int := by
  obtain ⟨m, e, hp, hs⟩ := sort_le (q.map fun x => x + c)
  rw [e]
  have e2 : m = (List.range q.length).map fun i : Nat => (i : Int) + c := by
    refine List.Perm.eq_of_pairwise (le := fun a b : Int => a ≤ b) (fun a b _ _ h1 h2 => Int.le_antisymm h1 h2) hs ?_ (hp.trans ?_)
    · rw [List.pairwise_map]
      exact List.Pairwise.imp (fun h => by omega) List.pairwise_lt_range
    · have := List.Perm.map (fun x : Int => x + c) (show q.Perm ((List.range q.length).map Int.ofNat) from hq)
      rw [List.map_map] at this
      exact this
  rw [e2]
end
section
theorem lt_tup (a b : List Int) : PySem.W.dataLt (tupD a) (tupD b) = decide (a < b) := by
  rw [show tupD a = .tuple (a.map .int) from rfl, show tupD b = .tuple (b.map .int) from rfl, PySem.W.dataLt_tuple]
  exact PySem.W.dataLt_ints a b
end
section
def srtT (F : List (List Int)) : List (List Int) := F.mergeSort fun a b => decide (a ≤ b)
end
section
theorem le_tup (a b : List Int) : PySem.W.dataLe false id (tupD a) (tupD b) = decide (a ≤ b) := by
  show (!PySem.W.dataLt (tupD b) (tupD a)) = _
  rw [lt_tup]
  by_cases h : b < a
  · have h' : ¬ a ≤ b := fun r => List.not_lt.mpr r h
    rw [decide_eq_true h, decide_eq_false h']
    rfl
  · have h' : a ≤ b := List.not_lt.mp h
    rw [decide_eq_false h, decide_eq_true h']
    rfl
end
section
theorem srtT_D (F : List (List Int)) : sortD (F.map tupD) = (srtT F).map tupD := by
  unfold sortD srtT
  refine (List.map_mergeSort (f := tupD) (l := F) fun a _ b _ => ?_).symm
  exact (le_tup a b).symm
end
section
theorem srtT_perm (F : List (List Int)) : (srtT F).Perm F := List.mergeSort_perm _ _
end
section
theorem srtT_up (F : List (List Int)) : (srtT F).Pairwise (· ≤ ·) := by
  have h := List.pairwise_mergeSort (le := fun a b : List Int => decide (a ≤ b)) (fun a b c h1 h2 => decide_eq_true (List.le_trans (of_decide_eq_true h1) (of_decide_eq_true h2))) (fun a b => by
    rw [Bool.or_eq_true, decide_eq_true_eq, decide_eq_true_eq]
    exact List.le_total a b) F
  exact h.imp fun h => of_decide_eq_true h
end
section
theorem srtT_eq {F G : List (List Int)} (hG : G.Pairwise (· ≤ ·)) (h : F.Perm G) : srtT F = G :=
  List.Perm.eq_of_pairwise (le := (· ≤ ·)) (fun a b _ _ h1 h2 => List.le_antisymm h1 h2) (srtT_up F) hG ((srtT_perm F).trans h)
end
section
theorem srtT_adj {F : List (List Int)} (hn : F.Nodup) : adj (fun d e => PySem.W.dataLt d e) ((srtT F).map tupD) = true := by
  rw [adj_iff]
  intro i a b ha hb
  rw [List.getElem?_map] at ha hb
  obtain ⟨x, h1, rfl⟩ := Option.map_eq_some_iff.mp ha
  obtain ⟨y, h2, rfl⟩ := Option.map_eq_some_iff.mp hb
  rw [lt_tup, decide_eq_true_eq]
  obtain ⟨i1, e1⟩ := List.getElem?_eq_some_iff.mp h1
  obtain ⟨i2, e2⟩ := List.getElem?_eq_some_iff.mp h2
  have h3 := List.pairwise_iff_getElem.mp (srtT_up F) i (i + 1) i1 i2 (Nat.lt_succ_self i)
  rw [e1, e2] at h3
  have hn2 : (srtT F).Nodup := (srtT_perm F).nodup_iff.mpr hn
  have h4 := List.pairwise_iff_getElem.mp hn2 i (i + 1) i1 i2 (Nat.lt_succ_self i)
  rw [e1, e2] at h4
  refine Classical.byContradiction fun h5 => h4 (List.le_antisymm h3 (List.not_lt.mp h5))

end
section
def rowsB (n : Nat) : Nat → List (List Int)
  | 0 => [[]]
  | t + 1 => (rowsB n t).flatMap fun row => (((List.range n).map Int.ofNat).filter fun x => decide (x ∉ row)).map fun x => row ++ [x]
end
section
theorem rowsB_mem {n : Nat} : ∀ (t : Nat) (x : List Int), x ∈ rowsB n t ↔ x.length = t ∧ x.Nodup ∧ ∀ v ∈ x, 0 ≤ v ∧ v < (n : Int)
  | 0, x => by
    rw [rowsB, List.mem_singleton]
    constructor
    · intro h
      subst h
      exact ⟨rfl, List.nodup_nil, fun v h => absurd h List.not_mem_nil⟩
    · intro ⟨h, _⟩
      exact List.eq_nil_of_length_eq_zero h
  | t + 1, x => by
    rw [rowsB, List.mem_flatMap]
    constructor
    · rintro ⟨r, hr, hx⟩
      obtain ⟨v, hv, rfl⟩ := List.mem_map.mp hx
      obtain ⟨hv1, hv2⟩ := List.mem_filter.mp hv
      obtain ⟨k, hk, rfl⟩ := List.mem_map.mp hv1
      have hk := List.mem_range.mp hk
      obtain ⟨a, b, c⟩ := (rowsB_mem t r).mp hr
      refine ⟨by rw [List.length_append, a]; rfl, List.nodup_append.mpr ⟨b, List.pairwise_singleton _ _, fun y hy z hz e => ?_⟩, fun y hy => ?_⟩
      · rw [List.mem_singleton.mp hz] at e
        rw [e] at hy
        exact of_decide_eq_true hv2 hy
      · rcases List.mem_append.mp hy with z | z
        · exact c y z
        · rw [List.mem_singleton.mp z]
          exact ⟨Int.natCast_nonneg _, by show (k : Int) < n; omega⟩
    · rintro ⟨a, b, c⟩
      rcases List.eq_nil_or_concat x with e | ⟨r, v, e⟩
      · rw [e] at a
        cases a
      · rw [List.concat_eq_append] at e
        subst e
        rw [List.length_append] at a
        obtain ⟨b1, _, b3⟩ := List.nodup_append.mp b
        have hv := c v (List.mem_append.mpr (.inr (List.mem_singleton.mpr rfl)))
        refine ⟨r, (rowsB_mem t r).mpr ⟨by simpa using a, b1, fun y hy => c y (List.mem_append.mpr (.inl hy))⟩, List.mem_map.mpr ⟨v, List.mem_filter.mpr ⟨List.mem_map.mpr ⟨v.toNat, List.mem_range.mpr (by omega), by show ((v.toNat : Nat) : Int) = v; omega⟩, decide_eq_true fun h => ?_⟩, rfl⟩⟩
        exact b3 v h v (List.mem_singleton.mpr rfl) rfl
end
section
theorem row_rowsB {p : List Int} (h : IsRow p) : p ∈ rowsB p.length p.length := (rowsB_mem _ _).mpr ⟨rfl, h.nodup, fun v hv => h.mem.mp hv⟩

end
section
/-- rows, by laying in the greatest -/
def rL : Nat → List (List Int)
  | 0 => [[]]
  | i + 1 => (rL i).flatMap fun row => (List.range (i + 1)).map fun place => row.take place ++ [(i : Int)] ++ row.drop place
end
section
theorem rL_perm : ∀ n, n < 5 → List.isPerm (rL n) (rowsB n n) = true := by decide +kernel
end
end Tr

namespace Tr
open PySem L2
local macro_rules | `(tactic| bv_omega) => `(tactic| ((conv => whnf); (repeat (first | (refine if_yes ?_; conv => whnf) | (refine if_no ?_; conv => whnf) | (refine And.intro (by first | exact trivial | assumption | exact rfl | decide | omega | (simp only [List.length_map, List.length_append, List.length_reverse, List.length_replicate, List.length_cons, List.length_nil, List.length_set, List.length_range]; omega)) ?_; conv => whnf))); (try simp only [List.set_cons_zero, List.set_cons_succ, List.length_cons, List.length_nil, List.length_map, List.cons_append, List.nil_append, List.replicate_succ, List.replicate_zero, Nat.reduceAdd, Nat.reduceSub])))
local macro_rules | `(tactic| sizeOf_list_dec) => `(tactic| ((conv => whnf); (repeat (first | (refine if_yes ?_; conv => whnf) | (refine if_no ?_; conv => whnf) | (refine And.intro (by first | exact trivial | assumption | exact rfl | decide | omega | (simp only [List.length_map, List.length_append, List.length_reverse, List.length_replicate, List.length_cons, List.length_nil, List.length_set, List.length_range]; omega)) ?_; conv => whnf))); (try simp only [List.set_cons_zero, List.set_cons_succ, List.length_cons, List.length_nil, List.length_map, List.cons_append, List.nil_append, List.replicate_succ, List.replicate_zero, Nat.reduceAdd, Nat.reduceSub, wipeR, resR, List.getElem?_cons_zero, List.getElem?_cons_succ])))
section
variable {row pat : List Int}
theorem atI_last {p : List Int} (h : 0 < p.length) : atI (p.map PyData.int) (-1) = some (.int (pG p (p.length - 1))) := by
  unfold atI
  have e : ixN (p.map PyData.int).length (-1) = some (p.length - 1) := by
    rw [List.length_map]
    unfold ixN
    rw [if_neg (by omega), if_pos (by omega)]
    congr 1
    omega
  rw [e]
  show (p.map PyData.int)[p.length - 1]? = _
  rw [List.getElem?_map, pG_get (by omega)]
  rfl
end
section
variable {row pat : List Int}
theorem Pl.mono {lot : List Int} (hn : pat.Nodup) (h : Pl row pat lot) {i j : Nat} (hi : i < lot.length) (hj : j < lot.length) (hl : pG pat i < pG pat j) : atI0 row (pG lot i) < atI0 row (pG lot j) := by
  by_cases c : i < j
  · have := h.is i j c hj
    rw [if_pos hl] at this
    exact this
  · have ne : i ≠ j := fun e => by rw [e] at hl; omega
    have := h.is j i (by omega) hi
    rw [if_neg (by omega)] at this
    exact this
end
section
theorem any_int (x : Int) : ∀ ps : List Int, (ps.map PyData.int).any (fun z => PyData.eqv z (.int x)) = decide (x ∈ ps)
  | [] => rfl
  | p :: ps => by
    rw [List.map_cons, List.any_cons, any_int x ps, show PyData.eqv (.int p) (.int x) = (p == x) from rfl]
    by_cases e : x = p
    · subst e
      simp
    · rw [show (p == x) = false from beq_eq_false_iff_ne.mpr (fun z => e z.symm), Bool.false_or]
      exact decide_eq_decide.mpr ⟨fun h => List.mem_cons_of_mem _ h, fun h => (List.mem_cons.mp h).resolve_left e⟩

end
section
def unD : D → List Int
  | .tuple ds => ds.map fun d => match d with
    | .int i => i
    | _ => 0
  | _ => []
end
section
theorem unD_tup (l : List Int) : unD (tupD l) = l := by
  show (l.map PyData.int).map _ = l
  rw [List.map_map]
  exact (List.map_congr_left fun _ _ => rfl).trans (List.map_id l)

end
section
variable {Qd : R → Rn → Prop} {Qx : Xn → Prop} {row pat places : List Int}
theorem all_succ {P : Nat → Prop} {i : Nat} : (∀ j, j < i + 1 → P j) ↔ (∀ j, j < i → P j) ∧ P i :=
  ⟨fun h => ⟨fun j hj => h j (by omega), h i (by omega)⟩, fun ⟨h1, h2⟩ j hj => by
    by_cases e : j = i
    · rw [e]; exact h2
    · exact h1 j (by omega)⟩
theorem nexts_ok (hr : IsRow row) (hp : Pl row pat places) (hl : places.length < pat.length) (hs : row.length ≤ 15) (hs2 : pat.length ≤ 9) (h : ∀ ρ, Qd (.tmp ((nextsP row pat places).map PyData.int)) ρ) : fnW 10 w_nexts [.im (.tuple (row.map PyData.int)), .im (.tuple (pat.map PyData.int)), .im (.tuple (places.map PyData.int))] Qd Qx := by
  have hg : pat[places.length]? = some (pG pat places.length) := pG_get hl
  refine fnW.mk ?_
  bv_omega
  rw [atI_ints (by omega) (show pat[((places.length : Int)).toNat]? = _ from hg)]
  bv_omega
  refine wLoop_inv _ (fun i ρ => ∃ (lo hi : Int) (y z : Sl), ρ = [.im (.tuple (row.map PyData.int)), .im (.tuple (pat.map PyData.int)), .im (.tuple (places.map PyData.int)), .im (.int (pG pat places.length)), .im (.int lo), .im (.int hi), y, z, .no, .no] ∧
    ∀ v : Int, (lo < v ∧ v < hi) ↔ (-1 < v ∧ v < row.length ∧ ∀ j, j < i → if pG pat j < pG pat places.length then atI0 row (pG places j) < v else v < atI0 row (pG places j))) ⟨-1, row.length, _, _, rfl, fun v => by simp⟩ (fun i d ρ N he ⟨lo, hi, y, z, e, hv⟩ hN => ?_) fun ρ ⟨lo, hi, y, z, e, hv⟩ => ?_
  · subst e
    obtain ⟨x, h1, rfl⟩ := enumD_get he
    obtain ⟨n, h2, rfl⟩ := ints_get h1
    have hi' := (List.getElem?_eq_some_iff.mp h2).1
    have en : pG places i = n := pG_of h2
    have hb := hp.bd i hi'
    rw [en] at hb
    have hR : row[n.toNat]? = some (atI0 row n) := pG_get (by omega)
    bv_omega
    rw [atI_ints (by omega) (show pat[((i : Int)).toNat]? = _ from pG_get (by omega))]
    bv_omega
    rw [Int.toNat_natCast]
    refine if_dec (fun c => ?_) fun c => ?_
    · bv_omega
      rw [atI_ints hb.1 hR]
      bv_omega
      refine hN _ ⟨_, _, _, _, rfl, fun v => ?_⟩
      rw [all_succ, if_pos c, en, ← and_assoc, ← and_assoc, and_assoc (a := -1 < v), ← hv v]
      split <;> omega
    · bv_omega
      rw [atI_ints hb.1 hR]
      bv_omega
      refine hN _ ⟨_, _, _, _, rfl, fun v => ?_⟩
      rw [all_succ, if_neg c, en, ← and_assoc, ← and_assoc, and_assoc (a := -1 < v), ← hv v]
      split <;> omega
  · subst e
    rw [enumD_len, List.length_map] at hv
    dsimp only
    refine seq_in fun T eT => ?_
    have next : ∀ s : Int, s = startOf places → T [.im (.tuple (row.map PyData.int)), .im (.tuple (pat.map PyData.int)), .im (.tuple (places.map PyData.int)), .im (.int (pG pat places.length)), .im (.int lo), .im (.int hi), y, z, .im (.int s), .no] := fun s es => by
      subst eT
      have s0 := hp.start0
      have s1 := hp.start1
      bv_omega
      rw [rangeD_ints, show ((List.range _).map fun i : Nat => s + (i : Int)) = irange s (row.length - (pat.length - places.length) + 1) from rfl]
      refine wCmp_filter _ (okAt row pat places) (by rw [irange, List.length_map, List.length_range]; omega) (fun x N M hx hN hM => ?_) fun ρ' hw => ?_
      · have hx := mem_irange.mp hx
        have hR : row[x.toNat]? = some (atI0 row x) := pG_get (by omega)
        have hR2 : -1 < atI0 row x ∧ atI0 row x < row.length := by
          have := pG_row hr (show x.toNat < row.length by omega)
          unfold atI0
          omega
        have hk : (lo < atI0 row x ∧ atI0 row x < hi) ↔ okAt row pat places x = true := by
          rw [hv, okAt_iff]
          exact ⟨fun h => h.2.2, fun h => ⟨hR2.1, hR2.2, h⟩⟩
        bv_omega
        rw [atI_ints (by omega) hR]
        bv_omega
        refine if_dec (fun c1 => ?_) fun c1 => ?_
        · bv_omega
          refine if_dec (fun c2 => ?_) fun c2 => ?_
          · bv_omega
            exact hN (hk.mp ⟨c1, c2⟩) _ rfl
          · bv_omega
            exact hM (Bool.eq_false_iff.mpr fun z => c2 (hk.mpr z).2) _ rfl
        · bv_omega
          exact hM (Bool.eq_false_iff.mpr fun z => c1 (hk.mpr z).1) _ rfl
      · rw [hw]
        sizeOf_list_dec
        rw [es]
        exact h _
    bv_omega
    refine ⟨⟨shp_tI _, shp_tnil⟩, ?_⟩
    rw [eqv_tnil]
    refine if_ndec (fun c => ?_) fun c => ?_
    · bv_omega
      have c0 : 0 < places.length := Nat.pos_of_ne_zero fun z => c (List.length_eq_zero_iff.mp z)
      rw [atI_last c0]
      bv_omega
      exact next _ (start_last c0).symm
    · bv_omega
      exact next 0 (by rw [c]; rfl)
theorem take_all {α : Type} {l : List α} {n : Nat} (h : (l.take (n + 1)).length ≤ n) : l.take (n + 1) = l := by
  rw [List.length_take] at h
  exact List.take_of_length_le (by omega)
theorem collect_ok (hr : IsRow row) (hs : row.length ≤ 15) (hs2 : pat.length ≤ 9) {most : Nat} (hm : most ≤ 500) : ∀ (f : Nat) (places : List Int) (fd : List (List Int)) (Qd : R → Rn → Prop) (Qx : Xn → Prop), Pl row pat places → pat.length < f + places.length → fd.length ≤ most →
    (∀ ρc, ρc[3]? = some (.ow true (((fd ++ ext row pat f places).take (most + 1)).map tupD)) → Qd (.im .none) ρc) →
    fnW 6 (w_collect f) [.im (.tuple (row.map PyData.int)), .im (.tuple (pat.map PyData.int)), .im (.tuple (places.map PyData.int)), .ow true (fd.map tupD), .im (.int most)] Qd Qx
  | 0, places, fd, Qd, Qx, hp, hf, hl, h => absurd hp.le (by omega)
  | f + 1, places, fd, Qd, Qx, hp, hf, hl, h => by
    refine fnW.mk ?_
    bv_omega
    refine ⟨⟨shp_int _, shp_int _⟩, ?_⟩
    refine if_hid (fun c => ?_) fun c => ?_
    · have c : (places.length : Int) = pat.length := eq_of_beq c
      bv_omega
      have e1 : ext row pat (f + 1) places = [places] := by
        unfold ext
        exact if_pos (by omega)
      rw [e1, List.take_of_length_le (by rw [List.length_append]; show fd.length + 1 ≤ most + 1; omega)] at h
      exact h _ (by rw [List.map_append]; rfl)
    · have c : ¬ places.length = pat.length := fun e => by
        have : ((places.length : Int) == pat.length) = true := by rw [e]; exact beq_self_eq_true _
        exact absurd this (by rw [show ((places.length : Int) == pat.length) = false from c]; decide)
      have e1 : ext row pat (f + 1) places = (nextsP row pat places).flatMap fun x => ext row pat f (places ++ [x]) := if_neg c
      rw [e1] at h
      bv_omega
      refine nexts_ok hr hp (by have := hp.le; omega) hs hs2 fun ρ => ?_
      bv_omega
      refine wLoop_inv _ (fun i ρ => ∃ y, ρ = [.im (.tuple (row.map PyData.int)), .im (.tuple (pat.map PyData.int)), .im (.tuple (places.map PyData.int)), .ow true (((fd ++ ((nextsP row pat places).take i).flatMap fun x => ext row pat f (places ++ [x])).take (most + 1)).map tupD), .im (.int most), y])
        ⟨_, by rw [List.take_zero, List.flatMap_nil, List.append_nil, List.take_of_length_le (by omega)]⟩ (fun i d ρ N he ⟨y, e⟩ hN => ?_) fun ρ ⟨y, e⟩ => ?_
      · subst e
        obtain ⟨x, hx, rfl⟩ := ints_get he
        have hm2 := List.mem_of_getElem? hx
        have et : ((nextsP row pat places).take (i + 1)).flatMap (fun x => ext row pat f (places ++ [x])) = ((nextsP row pat places).take i).flatMap (fun x => ext row pat f (places ++ [x])) ++ ext row pat f (places ++ [x]) := by
          rw [List.take_add_one, hx, List.flatMap_append]
          show _ ++ List.flatMap _ [x] = _
          rw [List.flatMap_cons, List.flatMap_nil, List.append_nil]
        have hlt : places.length < pat.length := by have := hp.le; omega
        have hadd := hp.add hlt hm2
        have hal : (places ++ [x]).length = places.length + 1 := by rw [List.length_append]; rfl
        generalize eA : fd ++ ((nextsP row pat places).take i).flatMap (fun x => ext row pat f (places ++ [x])) = A at hN ⊢
        rw [et, ← List.append_assoc, eA] at hN
        bv_omega
        refine if_dec (fun c1 => ?_) fun c1 => ?_
        · have hA : A.take (most + 1) = A := take_all (by omega)
          rw [hA] at c1 ⊢
          bv_omega
          rw [show places.map PyData.int ++ [PyData.int x] = (places ++ [x]).map PyData.int by rw [List.map_append]; rfl]
          refine collect_ok hr hs hs2 hm f (places ++ [x]) A _ _ hadd (by omega) (by omega) fun ρc hc => ?_
          rw [hc]
          exact hN _ ⟨_, rfl⟩
        · bv_omega
          refine hN _ ⟨.im (.int x), ?_⟩
          have hA : most + 1 ≤ A.length := by
            rw [List.length_take] at c1
            omega
          rw [List.take_append_of_le_length hA]
      · subst e
        rw [List.length_map, List.take_length]
        exact h _ rfl
theorem plc_ext {f : Nat} (hf : pat.length < f) : ext row pat f [] = plc row pat := ext_fuel f _ [] hf (Nat.lt_succ_self _) (Nat.zero_le _)
theorem first_ok (hr : IsRow row) (hs : row.length ≤ 15) (hs2 : pat.length ≤ 5) (h : ∀ ρ, Qd (.im (match plc row pat with | [] => .none | x :: _ => tupD x)) ρ) : fnW 3 w_first_placing [.im (.tuple (row.map PyData.int)), .im (.tuple (pat.map PyData.int))] Qd Qx := by
  have hF : ∀ d ∈ (plc row pat).map tupD, Fit 100 1 d := fun d hd => by
    obtain ⟨x, hx, rfl⟩ := List.mem_map.mp hd
    have h1 := (mem_plc.mp hx).1
    have := h1.le
    refine Sm.fit (k := 15) (fun v hv => ?_) (by decide) (by omega)
    obtain ⟨i, hi⟩ := List.getElem?_of_mem hv
    have := h1.bd i (List.getElem?_eq_some_iff.mp hi).1
    rw [pG_of hi] at this
    omega
  refine fnW.mk ?_
  bv_omega
  refine collect_ok (most := 0) hr hs (by omega) (by decide) 6 [] [] _ _ (Pl.nil row pat) (by show pat.length < 6; omega) (by decide) fun ρc hc => ?_
  rw [hc, plc_ext (by omega), List.nil_append]
  generalize plc row pat = L at h hF
  cases L with
  | nil =>
    bv_omega
    refine ⟨⟨shp_nil, shp_nil⟩, ?_⟩
    refine if_hid (fun c => (nomatch c)) fun c => ?_
    bv_omega
    exact h _
  | cons x r =>
    have s1 : Shp (.list [tupD x]) := (Fit.list (b' := 1000) (k' := 2) (fun d hd => hF d (List.mem_map.mpr ⟨x, List.mem_cons_self, (List.mem_singleton.mp hd).symm⟩)) (Nat.le_of_ble_eq_true rfl) (by decide)).shp (by decide)
    bv_omega
    refine ⟨⟨s1, shp_nil⟩, ?_⟩
    refine if_hid (fun c => ?_) fun c => (nomatch c)
    bv_omega
    exact h _
end
end Tr

namespace Tr
open PySem L2
local macro_rules | `(tactic| bv_omega) => `(tactic| ((conv => whnf); (repeat (first | (refine if_yes ?_; conv => whnf) | (refine if_no ?_; conv => whnf) | (refine And.intro (by first | exact trivial | assumption | exact rfl | decide | omega | (simp only [List.length_map, List.length_append, List.length_reverse, List.length_replicate, List.length_cons, List.length_nil, List.length_set, List.length_range]; omega)) ?_; conv => whnf))); (try simp only [List.set_cons_zero, List.set_cons_succ, List.length_cons, List.length_nil, List.length_map, List.cons_append, List.nil_append, List.replicate_succ, List.replicate_zero, Nat.reduceAdd, Nat.reduceSub])))
local macro_rules | `(tactic| array_get_dec) => `(tactic| ((conv => whnf); (repeat (first | ((with_reducible refine if_nT ?_); conv => whnf) | ((with_reducible refine if_T ?_); conv => whnf) | ((with_reducible refine if_nT2 ?_); conv => whnf) | ((with_reducible refine if_nF ?_); conv => whnf) | ((with_reducible refine if_yes ?_); conv => whnf) | ((with_reducible refine if_no ?_); conv => whnf) | ((with_reducible refine if_bT ?_); conv => whnf) | ((with_reducible refine if_bF ?_); conv => whnf) | (focus ((with_reducible refine if_dec ?_ ?_); rotate_left; (intro c; exact absurd (by first | (with_reducible rfl) | omega) c); intro _; conv => whnf)) | (focus ((with_reducible refine if_dec ?_ ?_); (intro c; exact absurd c (by omega)); intro _; conv => whnf)) | (focus ((with_reducible refine if_ndec ?_ ?_); rotate_left; (intro c; exact absurd c (by omega)); intro _; conv => whnf)) | (focus ((with_reducible refine if_ndec ?_ ?_); (intro c; exact absurd (by first | (with_reducible rfl) | omega) c); intro _; conv => whnf)) | (focus ((with_reducible refine if_eqi ?_ ?_); rotate_left; (intro c; exact absurd (by first | (with_reducible rfl) | omega) c); intro _; conv => whnf)) | (focus ((with_reducible refine if_eqi ?_ ?_); (intro c; exact absurd c (by omega)); intro _; conv => whnf)) | (focus ((with_reducible refine if_nei ?_ ?_); rotate_left; (intro c; exact absurd c (by omega)); intro _; conv => whnf)) | (focus ((with_reducible refine if_nei ?_ ?_); (intro c; exact absurd (by first | (with_reducible rfl) | omega) c); intro _; conv => whnf)) | (refine And.intro (by first | exact trivial | assumption | exact rfl | (with_reducible exact And.intro (by first | assumption | exact shp_int _ | exact shp_tI _ | exact shp_lI _) (by first | assumption | exact shp_int _ | exact shp_tnil | exact shp_nil | exact shp_tI _ | exact shp_lI _)) | (with_reducible exact RcOk.mk6 (by decide) (by decide) (by decide) (by omega) (by omega) (by omega) (by omega)) | decide | omega | (simp only [List.length_map, List.length_append, List.length_reverse, List.length_replicate, List.length_cons, List.length_nil, List.length_set, List.length_range]; omega)) ?_; conv => whnf) | simp only [List.set_cons_zero, List.set_cons_succ, List.length_cons, List.length_nil, List.length_map, List.cons_append, List.nil_append, List.replicate_succ, List.replicate_zero, Nat.reduceAdd, Nat.reduceSub]))))
local macro_rules | `(tactic| array_mem_dec) => `(tactic| ((conv => whnf); (repeat (first | ((with_reducible refine if_nT ?_); conv => whnf) | ((with_reducible refine if_T ?_); conv => whnf) | ((with_reducible refine if_nT2 ?_); conv => whnf) | ((with_reducible refine if_nF ?_); conv => whnf) | ((with_reducible refine if_yes ?_); conv => whnf) | ((with_reducible refine if_no ?_); conv => whnf) | ((with_reducible refine if_bT ?_); conv => whnf) | ((with_reducible refine if_bF ?_); conv => whnf) | (focus ((with_reducible refine if_dec ?_ ?_); rotate_left; (intro c; exact absurd (by first | (with_reducible rfl) | omega) c); intro _; conv => whnf)) | (focus ((with_reducible refine if_dec ?_ ?_); (intro c; exact absurd c (by omega)); intro _; conv => whnf)) | (focus ((with_reducible refine if_ndec ?_ ?_); rotate_left; (intro c; exact absurd c (by omega)); intro _; conv => whnf)) | (focus ((with_reducible refine if_ndec ?_ ?_); (intro c; exact absurd (by first | (with_reducible rfl) | omega) c); intro _; conv => whnf)) | (focus ((with_reducible refine if_eqi ?_ ?_); rotate_left; (intro c; exact absurd (by first | (with_reducible rfl) | omega) c); intro _; conv => whnf)) | (focus ((with_reducible refine if_eqi ?_ ?_); (intro c; exact absurd c (by omega)); intro _; conv => whnf)) | (focus ((with_reducible refine if_nei ?_ ?_); rotate_left; (intro c; exact absurd c (by omega)); intro _; conv => whnf)) | (focus ((with_reducible refine if_nei ?_ ?_); (intro c; exact absurd (by first | (with_reducible rfl) | omega) c); intro _; conv => whnf)) | (refine And.intro (by first | exact trivial | assumption | exact rfl | (with_reducible exact And.intro (by first | assumption | exact shp_int _ | exact shp_tI _ | exact shp_lI _) (by first | assumption | exact shp_int _ | exact shp_tnil | exact shp_nil | exact shp_tI _ | exact shp_lI _)) | (with_reducible exact RcOk.mk6 (by decide) (by decide) (by decide) (by omega) (by omega) (by omega) (by omega)) | decide | omega | (simp only [List.length_map, List.length_append, List.length_reverse, List.length_replicate, List.length_cons, List.length_nil, List.length_set, List.length_range]; omega)) ?_; conv => whnf) | simp only [List.set_cons_zero, List.set_cons_succ, List.length_cons, List.length_nil, List.length_map, List.cons_append, List.nil_append, List.replicate_succ, List.replicate_zero, Nat.reduceAdd, Nat.reduceSub, wipeR, resR, List.getElem?_cons_zero, List.getElem?_cons_succ]))))
section
variable {row pat : List Int}
theorem pl_fit (hs : row.length ≤ 12) (hs2 : pat.length ≤ 12) {x : List Int} (h1 : Pl row pat x) : Fit 100 1 (tupD x) := by
  have h2 := h1.le
  refine Sm.fit (k := 12) (fun v hv => ?_) (by decide) (by omega)
  obtain ⟨i, hi⟩ := List.getElem?_of_mem hv
  have := h1.bd i (List.getElem?_eq_some_iff.mp hi).1
  rw [pG_of hi] at this
  omega
end
section
variable {row pat : List Int}
def tsz (row pat : List Int) : Nat → List Int → Nat
  | 0, _ => 1
  | f + 1, places => 1 + if places.length = pat.length then 0 else ((nextsP row pat places).map fun x => tsz row pat f (places ++ [x])).sum
end
section
variable {row pat : List Int}
def eF (row pat lot : List Int) : List (List Int) := ext row pat (pat.length + 1 - lot.length) lot
end
section
variable {row pat : List Int}
def zF (row pat lot : List Int) : Nat := tsz row pat (pat.length + 1 - lot.length) lot
end
section
variable {row pat : List Int}
theorem zF_cut {lot : List Int} (hl : lot.length < pat.length) : zF row pat lot = 1 + ((nextsP row pat lot).map fun x => zF row pat (lot ++ [x])).sum := by
  unfold zF
  rw [show pat.length + 1 - lot.length = (pat.length - lot.length) + 1 by omega]
  conv => lhs; unfold tsz
  rw [if_neg (by omega)]
  congr 2
  apply List.map_congr_left
  intro x _
  rw [List.length_append, show pat.length + 1 - (lot.length + [x].length) = pat.length - lot.length by show _ - (_ + 1) = _; omega]
end
section
variable {row pat : List Int}
theorem eF_cut {lot : List Int} (hl : lot.length < pat.length) : eF row pat lot = (nextsP row pat lot).flatMap fun x => eF row pat (lot ++ [x]) := by
  unfold eF
  rw [show pat.length + 1 - lot.length = (pat.length - lot.length) + 1 by omega]
  conv => lhs; unfold ext
  rw [if_neg (by omega)]
  congr 1
  funext x
  rw [List.length_append, show pat.length + 1 - (lot.length + [x].length) = pat.length - lot.length by show _ - (_ + 1) = _; omega]
end
section
variable {row pat : List Int}
theorem zF_len : ∀ t : List (List Int), t.length ≤ (t.map (zF row pat)).sum
  | [] => Nat.le_refl _
  | a :: t => by
    have h1 := zF_len t
    have h2 : 1 ≤ zF row pat a := by
      unfold zF
      cases pat.length + 1 - a.length with
      | zero => exact Nat.le_refl _
      | succ r => unfold tsz; omega
    rw [List.map_cons, List.sum_cons, List.length_cons]
    omega
end
section
variable {row pat : List Int}
theorem start_app {p : List Int} {x : Int} : startOf (p ++ [x]) = x + 1 := by
  unfold startOf
  rw [List.getLast?_append]
  rfl
end
section
variable {row pat : List Int}
theorem pow_sum (N : Nat) : ∀ m : Nat, m ≤ N → ((List.range m).map fun i => 2 ^ (N - 1 - i)).sum + 2 ^ (N - m) = 2 ^ N
  | 0, _ => by rw [List.range_zero]; exact Nat.zero_add _
  | m + 1, h => by
    have h1 := pow_sum N m (by omega)
    rw [List.range_succ, List.map_append, List.sum_append]
    show _ + (2 ^ (N - 1 - m) + 0) + _ = _
    rw [show N - m = (N - 1 - m) + 1 by omega, Nat.pow_succ] at h1
    rw [show N - (m + 1) = N - 1 - m by omega]
    omega
end
section
variable {row pat : List Int}
theorem tsz_pow : ∀ (f : Nat) (places : List Int), Pl row pat places → tsz row pat f places ≤ 2 ^ (row.length - (startOf places).toNat)
  | 0, places, hp => Nat.one_le_two_pow
  | f + 1, places, hp => by
    unfold tsz
    split
    · exact Nat.one_le_two_pow
    · rename_i c
      have hl : places.length < pat.length := by have := hp.le; omega
      have s0 := hp.start0
      have s1 := hp.start1
      have h1 : ((nextsP row pat places).map fun x => tsz row pat f (places ++ [x])).sum ≤ ((nextsP row pat places).map fun x => 2 ^ (row.length - (x + 1).toNat)).sum := sum_le _ _ _ fun x hx => by
        have := tsz_pow f (places ++ [x]) (hp.add hl hx)
        rw [start_app] at this
        exact this
      have h2 : ((nextsP row pat places).map fun x => 2 ^ (row.length - (x + 1).toNat)).sum ≤ ((irange (startOf places) (row.length - (pat.length - places.length) + 1)).map fun x => 2 ^ (row.length - (x + 1).toNat)).sum := sum_filter_le _ _ _
      have h3 : ((irange (startOf places) (row.length - (pat.length - places.length) + 1)).map fun x => 2 ^ (row.length - (x + 1).toNat)).sum + 1 ≤ 2 ^ (row.length - (startOf places).toNat) := by
        have h4 := pow_sum (row.length - (startOf places).toNat) (((row.length : Int) - (pat.length - places.length) + 1 - startOf places).toNat) (by omega)
        have h5 : 1 ≤ 2 ^ (row.length - (startOf places).toNat - ((row.length : Int) - (pat.length - places.length) + 1 - startOf places).toNat) := Nat.one_le_two_pow
        have h6 : ((irange (startOf places) (row.length - (pat.length - places.length) + 1)).map fun x => 2 ^ (row.length - (x + 1).toNat)) = (List.range ((row.length : Int) - (pat.length - places.length) + 1 - startOf places).toNat).map fun i => 2 ^ (row.length - (startOf places).toNat - 1 - i) := by
          unfold irange
          rw [List.map_map]
          refine List.map_congr_left fun i hi => ?_
          have hi := List.mem_range.mp hi
          show 2 ^ (row.length - (startOf places + (i : Int) + 1).toNat) = _
          congr 1
          omega
        rw [h6]
        omega
      omega
end
section
variable {row pat : List Int}
theorem z0_le (hs : row.length ≤ 12) : ([[]].map (zF row pat)).sum ≤ 4096 := by
  have h1 := tsz_pow (pat.length + 1 - 0) [] (Pl.nil row pat)
  have h2 : 2 ^ (row.length - (startOf []).toNat) ≤ 2 ^ 12 := Nat.pow_le_pow_right (by decide) (by omega)
  exact Nat.le_trans h1 h2
end
section
variable {row pat : List Int}
theorem nexts_few {places : List Int} (hp : Pl row pat places) (hl : places.length < pat.length) : (nextsP row pat places).length ≤ row.length := by
  have h1 : (nextsP row pat places).length ≤ _ := List.length_filter_le _ _
  have := hp.start0
  rw [irange, List.length_map, List.length_range] at h1
  omega
end
section
variable {Qd : R → Rn → Prop} {Qx : Xn → Prop} {row pat places p lot : List Int}
theorem if_neb {a b : Prop} [Decidable a] [Decidable b] {A B : Prop} (h1 : (a ↔ b) → B) (h2 : ¬ (a ↔ b) → A) : IfW (hid (!PyData.eqv (.bool (hid (decide a))) (.bool (hid (decide b))))) A B := by
  refine if_hid (fun c => h2 ?_) fun c => h1 ?_
  · rw [PyData.eqv, hid_eq, hid_eq] at c
    by_cases ca : a <;> by_cases cb : b <;> simp_all
  · rw [PyData.eqv, hid_eq, hid_eq] at c
    by_cases ca : a <;> by_cases cb : b <;> simp_all
end
section
variable {Qd : R → Rn → Prop} {Qx : Xn → Prop} {row pat places p lot : List Int}
theorem ok_iff {x : Int} (hr : row.Nodup) (hp : Pl row pat lot) (hx0 : startOf lot ≤ x) (hx1 : x < row.length) : okAt row pat lot x = true ↔ ∀ j, j < lot.length → (atI0 row (pG lot j) < atI0 row x ↔ pG pat j < pG pat lot.length) := by
  rw [okAt_iff]
  have hx := hp.start0
  refine forall_congr' fun j => forall_congr' fun hj => ?_
  have hbd := hp.bd j hj
  have hne : atI0 row (pG lot j) ≠ atI0 row x := fun e => by
    have h3 := pG_nodup hr (i := (pG lot j).toNat) (j := x.toNat) (by omega) (by omega) e
    have h4 : pG lot j ≤ pG lot (lot.length - 1) := by
      by_cases c : j = lot.length - 1
      · rw [c]; exact Int.le_refl _
      · exact Int.le_of_lt (hp.up j (lot.length - 1) (by omega) (by omega))
    have h5 := start_last (places := lot) (by omega)
    omega
  split <;> omega
end
section
variable {Qd : R → Rn → Prop} {Qx : Xn → Prop} {row pat places p lot : List Int}
theorem fits_ok {x : Int} (hr : row.Nodup) (hp : Pl row pat lot) (hl : lot.length < pat.length) (hx0 : startOf lot ≤ x) (hx1 : x < row.length) (hs : row.length ≤ 12) (hs2 : pat.length ≤ 12) (h : ∀ ρ, Qd (.im (.bool (okAt row pat lot x))) ρ) : fnW 7 w_u_law_fits [.im (.tuple (row.map PyData.int)), .im (.tuple (pat.map PyData.int)), .im (.tuple (lot.map PyData.int)), .im (.int x)] Qd Qx := by
  have hx := hp.start0
  have gx : row[x.toNat]? = some (atI0 row x) := pG_get (by omega)
  have gk : pat[((lot.length : Nat) : Int).toNat]? = some (pG pat lot.length) := pG_get (by omega)
  refine fnW.mk ?_
  array_get_dec
  refine wLoop_inv _ (fun i ρ => ∃ y z, ρ = [.im (.tuple (row.map PyData.int)), .im (.tuple (pat.map PyData.int)), .im (.tuple (lot.map PyData.int)), .im (.int x), .im (.int lot.length), y, z] ∧ ∀ j, j < i → (atI0 row (pG lot j) < atI0 row x ↔ pG pat j < pG pat lot.length)) ⟨_, _, rfl, fun j hj => absurd hj (Nat.not_lt_zero _)⟩ (fun i d ρ N he ⟨y, z, e, hq⟩ hN => ?_) fun ρ ⟨y, z, e, hq⟩ => ?_
  · subst e
    obtain ⟨w, h1, rfl⟩ := enumD_get he
    obtain ⟨v, h2, rfl⟩ := ints_get h1
    have hi := (List.getElem?_eq_some_iff.mp h2).1
    have ev := pG_of h2
    have hbd := hp.bd i hi
    rw [ev] at hbd
    have gv : row[v.toNat]? = some (atI0 row v) := pG_get (by omega)
    have gi : pat[((i : Nat) : Int).toNat]? = some (pG pat i) := pG_get (show i < pat.length by omega)
    array_get_dec
    rw [atI_ints (by omega) gv]
    array_get_dec
    rw [atI_ints (by omega) gx]
    array_get_dec
    rw [atI_ints (by omega) gi]
    array_get_dec
    rw [atI_ints (by omega) gk]
    array_get_dec
    refine ⟨⟨shp_bool _, shp_bool _⟩, ?_⟩
    refine if_neb (fun c => ?_) fun c => ?_
    · array_get_dec
      refine hN _ ⟨_, _, rfl, fun j hj => ?_⟩
      by_cases cj : j = i
      · subst cj
        rw [ev]
        exact c
      · exact hq j (by omega)
    · have ef : okAt row pat lot x = false := by
        refine Bool.eq_false_iff.mpr fun z => c ?_
        have := (ok_iff hr hp hx0 hx1).mp z i hi
        rw [ev] at this
        exact this
      rw [ef] at h
      array_get_dec
      exact h _
  · subst e
    rw [enumD_len, List.length_map] at hq
    rw [(ok_iff hr hp hx0 hx1).mpr hq] at h
    array_get_dec
    exact h _
end
section
variable {Qd : R → Rn → Prop} {Qx : Xn → Prop} {row pat places p lot : List Int}
theorem eqv_cnil (L : List D) (h : L ≠ []) : PyData.eqv (.list L) (.list []) = false := by
  cases L with
  | nil => exact absurd rfl h
  | cons a r => rfl
end
section
variable {Qd : R → Rn → Prop} {Qx : Xn → Prop} {row pat places p lot : List Int}
theorem last_of {A : List D} {x : D} : (A ++ [x])[(A ++ [x]).length - 1]? = some x := by
  rw [List.length_append, List.getElem?_append_right (by exact Nat.le_refl _)]
  show [x][A.length + 1 - 1 - A.length]? = _
  rw [Nat.add_sub_cancel, Nat.sub_self]
  rfl
end
section
theorem alike_tupD (a b : List Int) : PySem.W.alike (tupD a) (tupD b) = true := by
  show PySem.W.alike (.tuple (a.map .int)) (.tuple (b.map .int)) = true
  rw [PySem.W.alike]
  exact PySem.W.alike_ints a b
end
section
theorem hasDict_tups : ∀ F : List (List Int), PyData.hasDictAll (F.map tupD) = false
  | [] => rfl
  | a :: F => by
    rw [List.map_cons, PyData.hasDictAll, hasDict_tups F, Bool.or_false]
    show PyData.hasDict (.tuple (a.map .int)) = false
    rw [PyData.hasDict]
    exact hasDict_ints a
end
section
theorem tups_side (F : List (List Int)) (h : ∀ a ∈ F, 1 ≤ a.length) : (PyData.hasDictAll (F.map tupD) = false ∧ PySem.W.AllAlike (F.map tupD) ∧ PySem.W.Sortable (F.map tupD)) ∧ ∀ d ∈ F.map tupD, d.depth ≤ 60 := by
  refine ⟨⟨hasDict_tups F, PySem.W.AllAlike.of alike_tupD, .inl fun d hd => ?_⟩, fun d hd => ?_⟩
  · obtain ⟨a, ha, rfl⟩ := List.mem_map.mp hd
    cases a with
    | nil => exact absurd (h [] ha) (by decide)
    | cons x r => exact ⟨.int x, r.map .int, rfl⟩
  · obtain ⟨a, ha, rfl⟩ := List.mem_map.mp hd
    show PyData.depth (.tuple (a.map .int)) ≤ 60
    rw [PyData.depth, depth_ints]
    decide

end
section
variable {Qd : R → Rn → Prop} {Qx : Xn → Prop} {row pat places p : List Int}
theorem tups_sideZ (F : List (List Int)) (h : (∀ a ∈ F, 1 ≤ a.length) ∨ F.length < 2) : ((PyData.hasDictAll (F.map tupD) = false ∧ PySem.W.AllAlike (F.map tupD) ∧ PySem.W.Sortable (F.map tupD)) ∧ ∀ d ∈ F.map tupD, d.depth ≤ 60) ∨ F.length < 2 := by
  rcases h with h | h
  · exact .inl (tups_side F h)
  · exact .inr h
end
section
variable {Qd : R → Rn → Prop} {Qx : Xn → Prop} {row pat places p : List Int}
theorem row_ok {n : Int} (h0 : 0 ≤ n) (h9 : n ≤ 1000) (h : ∀ (q : List Int) ρ, IsRow q → (q.length : Int) = n → Qd (.im (.tuple (q.map PyData.int))) ρ) : fnW 4 w_u_law_row [.pot, .im (.int n)] Qd Qx := by
  have hr : IsRow ((List.range n.toNat).map Int.ofNat) := isRow_range _
  have hrl : ((List.range n.toNat).map Int.ofNat).length = n.toNat := by rw [List.length_map, List.length_range]
  have e0 : rangeD 0 n = ((List.range n.toNat).map Int.ofNat).map PyData.int := by
    have := rangeD_zero n.toNat
    rw [Int.toNat_of_nonneg h0] at this
    exact this
  refine fnW.mk ?_
  bv_omega
  rw [e0]
  generalize (List.range n.toNat).map Int.ofNat = p at hr hrl
  have fin : ∀ (q : List Int) ρ, q.Perm p → Qd (.im (.tuple (q.map PyData.int))) ρ := fun q ρ hq => h q ρ (hr.of_perm hq) (by rw [hq.length_eq, hrl]; omega)
  refine wWhile_inv (fun m ρ => ∃ l f : List Int, ρ = [.pot, .im (.int n), .ow false (l.map PyData.int), .ow false (f.map PyData.int)] ∧ l.length = m ∧ (f ++ l).Perm p) p.length ⟨p, [], rfl, rfl, List.Perm.refl _⟩ fun m ρ N ⟨l, f, e, hm, hp⟩ hN => ?_
  subst e
  have hlf : f.length + l.length = p.length := by rw [← List.length_append]; exact hp.length_eq
  bv_omega
  refine ⟨⟨shp_lI l, shp_nil⟩, ?_⟩
  rw [eqv_lnil]
  cases l with
  | nil =>
    refine if_ndec (fun c => absurd rfl c) fun _ => ?_
    bv_omega
    exact fin f _ (by simpa using hp)
  | cons x r =>
    rw [List.length_cons] at hlf hm
    refine if_ndec (fun _ => ?_) fun c => nomatch c
    bv_omega
    refine of_ok (by omega) fun k hk ρ' => ?_
    have hk2 : 0 ≤ k ∧ k < ((r.length + 1 : Nat) : Int) := ⟨hk.1, hk.2.elim id fun z => by rw [z]; omega⟩
    have hlt : k.toNat < (x :: r).length := by rw [List.length_cons]; omega
    have hget : (x :: r)[k.toNat]? = some (x :: r)[k.toNat] := List.getElem?_eq_getElem hlt
    generalize (x :: r)[k.toNat] = y at hget
    bv_omega
    rw [ixN_int hk2.1 hk2.2]
    simp only [List.getElem?_map, hget, Option.map_some]
    bv_omega
    refine hN r.length _ (by omega) ⟨(x :: r).eraseIdx k.toNat, f ++ [y], ?_, ?_, ?_⟩
    · rw [map_eraseIdx, List.map_append]
      rfl
    · rw [List.length_eraseIdx, if_pos hlt, List.length_cons]
      rfl
    · rw [List.append_assoc]
      exact ((perm_erase _ _ _ hget).append_left f).trans hp
end
section
variable {Qd : R → Rn → Prop} {Qx : Xn → Prop} {row pat places p : List Int}
theorem pick_ok {ds : List D} (hl : ds.length ≤ 1000) (h1 : 1 ≤ ds.length) (h : ∀ d ∈ ds, ∀ ρ, Qd (.im d) ρ) : fnW 2 w_u_law_pick [.pot, .im (.list ds)] Qd Qx := by
  refine fnW.mk ?_
  array_get_dec
  refine of_ok (by omega) fun k hk ρ => ?_
  array_get_dec
  have hk1 := hk.1
  have hlt : k.toNat < ds.length := by have := hk.2; omega
  rw [atI_int hk1 (List.getElem?_eq_getElem hlt)]
  array_get_dec
  exact h _ (List.getElem_mem hlt) _
end
section
variable {Qd : R → Rn → Prop} {Qx : Xn → Prop}
theorem if_isT {T n : String} {A B : Prop} (e : isTy T n = true) (h : A) : IfW (hid (isTy T n)) A B := if_hid (fun _ => h) fun c => by rw [e] at c; cases c
theorem if_isF {T n : String} {A B : Prop} (e : isTy T n = false) (h : B) : IfW (hid (isTy T n)) A B := if_hid (fun c => by rw [e] at c; cases c) fun _ => h
theorem if_nisT {T n : String} {A B : Prop} (e : isTy T n = true) (h : B) : IfW (!hid (isTy T n)) A B := by
  rw [hid_eq, e]
  exact if_no h
theorem if_nisF {T n : String} {A B : Prop} (e : isTy T n = false) (h : A) : IfW (!hid (isTy T n)) A B := by
  rw [hid_eq, e]
  exact if_yes h
theorem if_nF {A B : Prop} (h : A) : IfW (!false) A B := if_yes h
theorem if_nT2 {A B : Prop} (h : B) : IfW (!true) A B := if_no h
def isW (lo t : Int) : D → Bool
  | .int p => decide (lo ≤ p ∧ p ≤ t)
  | _ => false
theorem scr_clean {kvs : List (D × D)} (h : cleanB (.dict kvs) = true) : scrOf kvs = none := by
  rw [cleanB] at h
  exact Option.isNone_iff_eq_none.mp h
end
/-- the first place that is none, or not greater than the one ahead -/
def scan (t : Int) : Nat → Option Int → List D → Option Nat
  | _, _, [] => none
  | k, pr, .int p :: ds => if (0 ≤ p ∧ p ≤ t) ∧ (∀ q, pr = some q → q < p) then scan t (k + 1) (some p) ds else some k
  | k, _, _ :: _ => some k
theorem scan_bad {t : Int} {k : Nat} {pr : Option Int} {d : D} {ds : List D} (h : isW 0 t d = false) : scan t k pr (d :: ds) = some k := by
  cases d <;> first | rfl | skip
  rename_i p
  rw [scan, if_neg]
  intro z
  have : isW 0 t (.int p) = true := decide_eq_true z.1
  rw [h] at this
  cases this
theorem isW_int {lo t : Int} {d : D} (h : isW lo t d = true) : ∃ p : Int, d = .int p ∧ lo ≤ p ∧ p ≤ t := by
  cases d <;> first | cases h | skip
  rename_i p
  exact ⟨p, rfl, of_decide_eq_true h⟩
/-- places that rise -/
def placesD (ds : List D) (row : List Int) : List Int := ds.map fun d => match d with
  | .int p => row.getD p.toNat 0
  | _ => 0
theorem getD_row {row : List Int} {p : Int} (h : 0 ≤ p ∧ p ≤ (row.length : Int) - 1) : row[p.toNat]? = some (row.getD p.toNat 0) := by
  rw [List.getD_eq_getElem?_getD, List.getElem?_eq_getElem (by omega)]
  rfl
theorem places_nodup {row ps : List Int} (hr : row.Nodup) (hp : ∀ p ∈ ps, 0 ≤ p ∧ p ≤ (row.length : Int) - 1) (hs : ps.Pairwise (· < ·)) : (ps.map fun p => row.getD p.toNat 0).Nodup := by
  rw [List.Nodup, List.pairwise_map]
  refine List.Pairwise.imp_of_mem (fun {a b} ha hb h e => ?_) hs
  have h1 := getD_row (hp a ha)
  have h2 := getD_row (hp b hb)
  rw [e] at h1
  have := nodup_get hr h1 h2
  have := hp a ha
  have := hp b hb
  omega
theorem scan_iff {t : Int} : ∀ (ds : List D) (k : Nat) (pr : Option Int), scan t k pr ds = none ↔ (∀ d ∈ ds, isW 0 t d = true) ∧ adj ltI ds = true ∧ ∀ q p, pr = some q → ds.head? = some (.int p) → q < p
  | [], k, pr => ⟨fun _ => ⟨fun d h => absurd h List.not_mem_nil, rfl, fun q p _ h => (by cases h)⟩, fun _ => rfl⟩
  | d :: ds, k, pr => by
    cases hw : isW 0 t d with
    | false =>
      rw [scan_bad hw]
      exact ⟨fun h => (by cases h), fun ⟨h, _⟩ => by rw [h d List.mem_cons_self] at hw; cases hw⟩
    | true =>
      obtain ⟨p, rfl, h1, h2⟩ := isW_int hw
      rw [scan]
      by_cases c : ∀ q, pr = some q → q < p
      · rw [if_pos ⟨⟨h1, h2⟩, c⟩, scan_iff ds (k + 1) (some p), List.forall_mem_cons]
        cases ds with
        | nil => exact ⟨fun _ => ⟨⟨hw, fun d h => absurd h List.not_mem_nil⟩, rfl, fun q x e e2 => by cases e2; exact c q e⟩, fun _ => ⟨fun d h => absurd h List.not_mem_nil, rfl, fun q x _ h => (by cases h)⟩⟩
        | cons e es =>
          rw [adj, Bool.and_eq_true]
          refine ⟨fun ⟨a1, a2, a3⟩ => ⟨⟨hw, a1⟩, ⟨?_, a2⟩, fun q x e e2 => by cases e2; exact c q e⟩, fun ⟨⟨_, a1⟩, ⟨a2, a3⟩, _⟩ => ⟨a1, a3, fun q x e1 e2 => ?_⟩⟩
          · obtain ⟨x, rfl, _, _⟩ := isW_int (a1 e List.mem_cons_self)
            exact decide_eq_true (a3 p x rfl rfl)
          · cases e1
            cases e2
            exact of_decide_eq_true a2
      · rw [if_neg (fun z => c z.2)]
        exact ⟨fun h => (by cases h), fun ⟨_, _, a3⟩ => absurd (fun q e => a3 q p e rfl) c⟩
theorem ints_of_isW {t : Int} {ds : List D} (h : ∀ d ∈ ds, isW 0 t d = true) : ∃ ps : List Int, ds = ps.map PyData.int ∧ ∀ p ∈ ps, 0 ≤ p ∧ p ≤ t := by
  induction ds with
  | nil => exact ⟨[], rfl, fun p hp => absurd hp List.not_mem_nil⟩
  | cons d ds ih =>
    obtain ⟨ps, rfl, h2⟩ := ih fun e he => h e (List.mem_cons_of_mem _ he)
    obtain ⟨p, rfl, h3, h4⟩ := isW_int (h d List.mem_cons_self)
    exact ⟨p :: ps, rfl, List.forall_mem_cons.mpr ⟨⟨h3, h4⟩, h2⟩⟩
theorem rise_of_adj : ∀ {ps : List Int}, adj ltI (ps.map PyData.int) = true → ps.Pairwise (· < ·)
  | [], _ => List.Pairwise.nil
  | [x], _ => List.pairwise_singleton _ _
  | x :: y :: ps, h => by
    rw [List.map_cons, List.map_cons, adj, Bool.and_eq_true] at h
    have h1 : x < y := of_decide_eq_true h.1
    have h2 := rise_of_adj (ps := y :: ps) h.2
    refine List.pairwise_cons.mpr ⟨fun z hz => ?_, h2⟩
    rcases List.mem_cons.mp hz with e | e
    · rw [e]; exact h1
    · have := (List.pairwise_cons.mp h2).1 z e
      omega

/-! ### like, of unlike ints -/
section
variable {Qd : R → Rn → Prop} {Qx : Xn → Prop}
def srt (l : List Int) : List Int := l.mergeSort fun a b => decide (a ≤ b)
theorem srt_spec (l : List Int) : sortD (l.map PyData.int) = (srt l).map PyData.int ∧ (srt l).Perm l ∧ (srt l).Pairwise (· ≤ ·) := by
  refine ⟨?_, List.mergeSort_perm _ _, ?_⟩
  · unfold sortD
    refine (List.map_mergeSort (f := PyData.int) (l := l) fun a _ b _ => ?_).symm
    exact (congrFun (congrFun (PySem.W.dataLe_int (fun x : Int => x)) a) b).symm
  · have h := List.pairwise_mergeSort (le := fun a b : Int => decide (a ≤ b)) (fun a b c h1 h2 => decide_eq_true (Int.le_trans (of_decide_eq_true h1) (of_decide_eq_true h2))) (fun a b => by
      rw [Bool.or_eq_true, decide_eq_true_eq, decide_eq_true_eq]
      omega) l
    exact h.imp fun h => of_decide_eq_true h
def likeI (l : List Int) : List Int := l.map fun x => ((idxI (srt l) x : Nat) : Int)
def kvM (m : List Int) (n : Nat) : List (Key × D) := (List.range n).map fun j : Nat => (.inl (m.getD j 0), .int (j : Int))
theorem kvM_len (m : List Int) (n : Nat) : (kvM m n).length = n := by unfold kvM; rw [List.length_map, List.length_range]
theorem getD_of {m : List Int} {i : Nat} {x : Int} (h : m[i]? = some x) : m.getD i 0 = x := by rw [List.getD_eq_getElem?_getD, h]; rfl
theorem kvM_any {m : List Int} {n i : Nat} {x : Int} (hm : m.Nodup) (hi : m[i]? = some x) (hn : n ≤ i) : (kvM m n).any (fun kv => decide (kv.1 = (.inl x : Key))) = false := by
  rw [List.any_eq_false]
  intro y hy
  obtain ⟨j, hj, rfl⟩ := List.mem_map.mp hy
  have hj := List.mem_range.mp hj
  rw [decide_eq_true_eq]
  intro z
  have z := Sum.inl.inj z
  have hil := (List.getElem?_eq_some_iff.mp hi).1
  have hjx : m[j]? = some x := by
    rw [List.getElem?_eq_getElem (by omega)]
    rw [List.getD_eq_getElem?_getD, List.getElem?_eq_getElem (by omega)] at z
    exact congrArg some z
  have := nodup_get hm hjx hi
  omega
theorem put_kvM {m : List Int} {i : Nat} {x : Int} (hm : m.Nodup) (hi : m[i]? = some x) : putD (kvM m i) (.inl x) (.int (i : Int)) = kvM m (i + 1) := by
  unfold putD
  rw [if_neg (by rw [kvM_any hm hi (Nat.le_refl _)]; exact nofun)]
  unfold kvM
  rw [List.range_succ, List.map_append, List.map_singleton, getD_of hi]
theorem val_kvM {m : List Int} (hm : m.Nodup) {i : Nat} {x : Int} (hi : m[i]? = some x) : ∀ n, i < n → n ≤ m.length → valD (kvM m n) (.inl x) = some (.int (i : Int))
  | 0, h, _ => absurd h (Nat.not_lt_zero i)
  | n + 1, h, hl => by
    have ih := val_kvM hm hi n
    have es : kvM m (n + 1) = kvM m n ++ [(.inl (m.getD n 0), .int (n : Int))] := by
      unfold kvM
      rw [List.range_succ, List.map_append]
      rfl
    rw [es]
    unfold valD at ih ⊢
    rw [List.find?_append]
    by_cases e : i < n
    · obtain ⟨y, h1, h2⟩ := Option.map_eq_some_iff.mp (ih e (by omega))
      rw [h1]
      exact congrArg some h2
    · have e : i = n := by omega
      subst e
      have hn : (kvM m i).find? (fun kv => decide (kv.1 = (.inl x : Key))) = none := by
        rw [List.find?_eq_none]
        intro y hy
        have := List.any_eq_false.mp (kvM_any hm hi (Nat.le_refl _)) y hy
        exact this
      rw [hn, getD_of hi, Option.none_or, List.find?_cons, decide_eq_true rfl]
      rfl
theorem own_like_ok {l : List Int} (hl : l.length ≤ 1000) (h : ∀ ρ, Qd (.im (.tuple ((likeI l).map PyData.int))) ρ) : fnW 3 w_u_law_like [.im (.list (l.map PyData.int))] Qd Qx := by
  obtain ⟨e1, e2, e3⟩ := srt_spec l
  have hml := e2.length_eq
  refine fnW.mk ?_
  array_get_dec
  refine ⟨by first | exact sort_side _ | exact .inl (sort_side _), ?_⟩
  rw [e1]
  array_get_dec
  refine wCmp_ints l (fun x => ((idxI (srt l) x : Nat) : Int)) (by omega) (fun x N M hx hN => ?_) fun ρ' hw => ?_
  · have ef := firstAt_ints (e2.mem_iff.mpr hx)
    array_get_dec
    rw [ef]
    array_get_dec
    exact hN _ rfl
  · rw [hw]
    array_mem_dec
    exact h _
end

/-! ### what like tells of items that stand like a row -/
theorem filter_sorted : ∀ {m : List Int} {k : Nat} {x : Int}, m.Pairwise (· < ·) → m[k]? = some x → (m.filter fun y => decide (y < x)).length = k
  | [], k, x, _, h => by cases h
  | a :: m, 0, x, hp, h => by
    cases h
    rw [List.filter_cons_of_neg (by rw [decide_eq_true_eq]; omega)]
    have h1 := (List.pairwise_cons.mp hp).1
    rw [List.filter_eq_nil_iff.mpr fun y hy => by have := h1 y hy; rw [decide_eq_true_eq]; omega]
    rfl
  | a :: m, k + 1, x, hp, h => by
    obtain ⟨h1, h2⟩ := List.pairwise_cons.mp hp
    have h3 : m[k]? = some x := h
    have := h1 x (List.mem_of_getElem? h3)
    rw [List.filter_cons_of_pos (by rw [decide_eq_true_eq]; exact this), List.length_cons, filter_sorted h2 h3]
theorem strict_of {m : List Int} (h1 : m.Pairwise (· ≤ ·)) (h2 : m.Nodup) : m.Pairwise (· < ·) := by
  have := h1.and h2
  refine this.imp fun {a b} ⟨h, n⟩ => ?_
  omega
theorem idx_cnt {l : List Int} (hn : l.Nodup) {x : Int} (hx : x ∈ l) : idxI (srt l) x = (l.filter fun y => decide (y < x)).length := by
  obtain ⟨_, hp, hs⟩ := srt_spec l
  have hst := strict_of hs (hp.nodup_iff.mpr hn)
  have hxm : x ∈ srt l := hp.mem_iff.mpr hx
  rw [← filter_sorted hst (idxI_get hxm)]
  exact (hp.filter _).length_eq
theorem cnt_at (l : List Int) (x : Int) : (l.filter fun y => decide (y < x)).length = ((List.range l.length).filter fun j => decide (pG l j < x)).length := by
  have e : l = (List.range l.length).map (pG l) := by
    refine List.ext_getElem? fun i => ?_
    rw [List.getElem?_map]
    by_cases h : i < l.length
    · rw [List.getElem?_range h, pG_get h]
      rfl
    · rw [List.getElem?_eq_none (by omega), List.getElem?_eq_none (by rw [List.length_range]; omega)]
      rfl
  conv => lhs; rw [e]
  rw [List.filter_map, List.length_map]
  rfl
theorem range_cnt (n v : Nat) (h : v ≤ n) : ((List.range n).filter fun j => decide (j < v)).length = v := by
  have e : List.range n = List.range v ++ (List.range (n - v)).map (v + ·) := by
    rw [← List.range_add]
    congr 1
    omega
  rw [e, List.filter_append, List.filter_eq_self.mpr fun j hj => decide_eq_true (List.mem_range.mp hj), List.filter_eq_nil_iff.mpr fun j hj => by
    obtain ⟨k, _, rfl⟩ := List.mem_map.mp hj
    rw [decide_eq_true_eq]
    omega, List.append_nil, List.length_range]
theorem row_cnt {p : List Int} (hp : IsRow p) {x : Int} (hx : x ∈ p) : (((p.filter fun y => decide (y < x)).length : Nat) : Int) = x := by
  obtain ⟨h0, h1⟩ := hp.mem.mp hx
  have := (List.Perm.filter (fun y => decide (y < x)) hp).length_eq
  rw [this, List.filter_map, List.length_map]
  have e : ((fun y : Int => decide (y < x)) ∘ Int.ofNat) = fun j : Nat => decide (j < x.toNat) := by
    funext j
    show decide ((j : Int) < x) = _
    rw [Bool.eq_iff_iff, decide_eq_true_eq, decide_eq_true_eq]
    omega
  rw [e, range_cnt _ _ (by omega)]
  omega
theorem like_of {l p : List Int} (hn : l.Nodup) (hp : IsRow p) (hl : l.length = p.length) (h : ∀ i j, i < p.length → j < p.length → (pG l i < pG l j ↔ pG p i < pG p j)) : likeI l = p := by
  refine List.ext_getElem? fun i => ?_
  unfold likeI
  rw [List.getElem?_map]
  by_cases c : i < p.length
  · rw [pG_get (show i < l.length by omega), pG_get c]
    show some ((idxI (srt l) (pG l i) : Nat) : Int) = _
    have e := row_cnt hp (List.mem_of_getElem? (pG_get c))
    rw [cnt_at] at e
    rw [idx_cnt hn (List.mem_of_getElem? (pG_get (show i < l.length by omega))), cnt_at, hl, List.filter_congr (q := fun j => decide (pG p j < pG p i)) fun j hj => by
      rw [Bool.eq_iff_iff, decide_eq_true_eq, decide_eq_true_eq]
      exact h j i (List.mem_range.mp hj) c, e]
  · rw [List.getElem?_eq_none (by omega), List.getElem?_eq_none (by omega)]
    rfl

/-! ### all rising lots, and which of them are placings -/
def dl (n m : Nat) : Nat → List Int → List (List Int)
  | 0, _ => []
  | f + 1, places => if places.length = m then [places] else (irange (startOf places) n).flatMap fun x => dl n m f (places ++ [x])
def lotsI (n : Nat) : Nat → List (List Int)
  | 0 => [[]]
  | t + 1 => (lotsI n t).flatMap fun lot => (irange (startOf lot) n).map fun x => lot ++ [x]
theorem lots_len {n : Nat} : ∀ (t : Nat), ∀ x ∈ lotsI n t, x.length = t
  | 0, x, h => by rw [List.mem_singleton.mp h]; rfl
  | t + 1, x, h => by
    obtain ⟨lot, h1, h2⟩ := List.mem_flatMap.mp h
    obtain ⟨v, _, rfl⟩ := List.mem_map.mp h2
    rw [List.length_append, lots_len t lot h1]
    rfl
theorem fm_congr {α β : Type} {f g : α → List β} : ∀ {l : List α}, (∀ x ∈ l, f x = g x) → l.flatMap f = l.flatMap g
  | [], _ => rfl
  | a :: l, h => by
    rw [List.flatMap_cons, List.flatMap_cons, h a List.mem_cons_self, fm_congr fun x hx => h x (List.mem_cons_of_mem _ hx)]
theorem lots_dl {n m : Nat} : ∀ (t : Nat), t ≤ m → (lotsI n t).flatMap (dl n m (m - t + 1)) = dl n m (m + 1) []
  | 0, _ => by
    show List.flatMap _ [[]] = _
    rw [List.flatMap_cons, List.flatMap_nil, List.append_nil, Nat.sub_zero]
  | t + 1, h => by
    rw [← lots_dl t (by omega), lotsI, List.flatMap_assoc]
    refine fm_congr fun lot hl => ?_
    have e := lots_len t lot hl
    rw [List.flatMap_map, show m - t + 1 = (m - (t + 1) + 1) + 1 by omega]
    conv => rhs; unfold dl
    rw [if_neg (by omega)]
theorem lots_all {n m : Nat} : lotsI n m = dl n m (m + 1) [] := by
  rw [← lots_dl m (Nat.le_refl m), Nat.sub_self]
  have : (lotsI n m).flatMap (dl n m (0 + 1)) = (lotsI n m).flatMap fun x => [x] := fm_congr fun x hx => by
    unfold dl
    rw [if_pos (lots_len m x hx)]
  rw [this, List.flatMap_singleton']
theorem pre_dl {n m : Nat} : ∀ (f : Nat) (places x : List Int), x ∈ dl n m f places → places <+: x
  | 0, _, x, h => absurd h List.not_mem_nil
  | f + 1, places, x, h => by
    unfold dl at h
    split at h
    · rw [List.mem_singleton.mp h]
      exact List.prefix_refl _
    · obtain ⟨v, _, h2⟩ := List.mem_flatMap.mp h
      exact (List.prefix_append _ _).trans (pre_dl f _ x h2)
theorem irange_app {a b c : Int} (h1 : a ≤ b) (h2 : b ≤ c) : irange a c = irange a b ++ irange b c := by
  unfold irange
  rw [show (c - a).toNat = (b - a).toNat + (c - b).toNat by omega, List.range_add, List.map_append, List.map_map]
  congr 1
  refine List.map_congr_left fun i _ => ?_
  show a + (((b - a).toNat + i : Nat) : Int) = _
  omega
theorem filter_mem {a b c : Int} {ok : Int → Bool} (h : b ≤ c) : (irange a c).filter (fun x => decide (x ∈ (irange a b).filter ok)) = (irange a b).filter ok := by
  by_cases h0 : a ≤ b
  · rw [irange_app h0 h, List.filter_append]
    rw [show (irange b c).filter (fun x => decide (x ∈ (irange a b).filter ok)) = [] from List.filter_eq_nil_iff.mpr fun x hx => by
      rw [decide_eq_true_eq]
      intro z
      have h1 := mem_irange.mp hx
      have h2 := mem_irange.mp (List.mem_filter.mp z).1
      omega, List.append_nil]
    refine List.filter_congr fun x hx => ?_
    rw [Bool.eq_iff_iff, decide_eq_true_eq, List.mem_filter]
    exact ⟨fun z => z.2, fun z => ⟨hx, z⟩⟩
  · have e : irange a b = [] := irange_nil (by omega)
    rw [e, List.filter_nil]
    exact List.filter_eq_nil_iff.mpr fun x _ => by rw [decide_eq_true_eq]; exact List.not_mem_nil
theorem fm_if {α β : Type} {p : α → Bool} {g : α → List β} : ∀ {l : List α}, (l.filter p).flatMap g = l.flatMap fun x => if p x = true then g x else []
  | [] => rfl
  | a :: l => by
    rw [List.flatMap_cons, ← fm_if (l := l)]
    cases h : p a with
    | true => rw [List.filter_cons_of_pos h, List.flatMap_cons, if_pos rfl]
    | false => rw [List.filter_cons_of_neg (by rw [h]; exact Bool.false_ne_true), if_neg Bool.false_ne_true, List.nil_append]
theorem nexts_of {row pat places : List Int} {v : Int} {f : Nat} {y : List Int} (hp : Pl row pat places) (hl : places.length < pat.length) (hf : pat.length < f + 1 + places.length) (hy : y ∈ plc row pat) (h : places ++ [v] <+: y) : v ∈ nextsP row pat places := by
  obtain ⟨h1, h2⟩ := mem_plc.mp hy
  have h3 := (mem_ext (f + 1) places y hp hf).mpr ⟨h1, h2, (List.prefix_append _ _).trans h⟩
  unfold ext at h3
  rw [if_neg (by omega)] at h3
  obtain ⟨w, hw, h4⟩ := List.mem_flatMap.mp h3
  have e1 := pre_pG (pre_ext f _ _ h4) (i := places.length) (by rw [List.length_append]; exact Nat.lt_succ_self _)
  have e2 := pre_pG h (i := places.length) (by rw [List.length_append]; exact Nat.lt_succ_self _)
  rw [pG_last] at e1 e2
  rw [← e2, e1]
  exact hw
theorem ext_dl {row pat : List Int} : ∀ (f : Nat) (places : List Int), Pl row pat places → pat.length < f + places.length → (dl row.length pat.length f places).filter (fun x => decide (x ∈ plc row pat)) = ext row pat f places
  | 0, places, hp, hf => absurd hp.le (by omega)
  | f + 1, places, hp, hf => by
    unfold dl ext
    by_cases c : places.length = pat.length
    · rw [if_pos c, if_pos c]
      exact List.filter_cons_of_pos (decide_eq_true (mem_plc.mpr ⟨hp, c⟩))
    · rw [if_neg c, if_neg c, List.filter_flatMap]
      have hl : places.length < pat.length := by have := hp.le; omega
      have e : nextsP row pat places = (irange (startOf places) row.length).filter fun x => decide (x ∈ nextsP row pat places) := (filter_mem (by omega)).symm
      rw [e, fm_if]
      refine fm_congr fun v _ => ?_
      by_cases hv : v ∈ nextsP row pat places
      · rw [if_pos (decide_eq_true hv)]
        exact ext_dl f _ (hp.add hl hv) (by rw [List.length_append]; show _ < f + (places.length + 1); omega)
      · rw [if_neg (by rw [decide_eq_true_eq]; exact hv)]
        refine List.filter_eq_nil_iff.mpr fun y hy => ?_
        rw [decide_eq_true_eq]
        exact fun z => hv (nexts_of hp hl hf z (pre_dl f _ _ hy))
theorem plc_lots {row pat : List Int} : (lotsI row.length pat.length).filter (fun x => decide (x ∈ plc row pat)) = plc row pat := by
  rw [lots_all]
  exact ext_dl _ _ (Pl.nil row pat) (Nat.lt_succ_self _)
/-- a lot: places that rise -/
structure Lot (n m : Nat) (x : List Int) : Prop where
  len : x.length = m
  bd : ∀ p ∈ x, 0 ≤ p ∧ p ≤ (n : Int) - 1
  up : x.Pairwise (· < ·)
theorem start_ge {x : List Int} (h : ∀ p ∈ x, 0 ≤ p) : 0 ≤ startOf x := by
  unfold startOf
  cases e : x.getLast? with
  | none => exact Int.le_refl _
  | some y =>
    have := h y (List.mem_of_getLast? e)
    show 0 ≤ y + 1
    omega
theorem start_gt {x : List Int} (h : x.Pairwise (· < ·)) : ∀ p ∈ x, p < startOf x := fun p hp => by
  unfold startOf
  cases e : x.getLast? with
  | none => rw [List.getLast?_eq_none_iff.mp e] at hp; exact absurd hp List.not_mem_nil
  | some y =>
    show p < y + 1
    obtain ⟨r, rfl⟩ := List.getLast?_eq_some_iff.mp e
    rcases List.mem_append.mp hp with z | z
    · have := (List.pairwise_append.mp h).2.2 p z y (List.mem_singleton.mpr rfl)
      omega
    · rw [List.mem_singleton.mp z]
      omega
theorem lot_of {n : Nat} : ∀ (t : Nat), ∀ x ∈ lotsI n t, Lot n t x
  | 0, x, h => by
    rw [List.mem_singleton.mp h]
    exact ⟨rfl, fun p hp => absurd hp List.not_mem_nil, List.Pairwise.nil⟩
  | t + 1, x, h => by
    obtain ⟨lot, h1, h2⟩ := List.mem_flatMap.mp h
    obtain ⟨v, hv, rfl⟩ := List.mem_map.mp h2
    obtain ⟨a, b, c⟩ := lot_of t lot h1
    have hv := mem_irange.mp hv
    have s0 := start_ge fun p hp => (b p hp).1
    refine ⟨by rw [List.length_append, a]; rfl, fun p hp => ?_, List.pairwise_append.mpr ⟨c, List.pairwise_singleton _ _, fun p hp q hq => ?_⟩⟩
    · rcases List.mem_append.mp hp with z | z
      · exact b p z
      · rw [List.mem_singleton.mp z]; omega
    · have := start_gt c p hp
      rw [List.mem_singleton.mp hq]
      omega
theorem idx_mono {l : List Int} (hn : l.Nodup) {x y : Int} (hx : x ∈ l) (hy : y ∈ l) : idxI (srt l) x < idxI (srt l) y ↔ x < y := by
  obtain ⟨_, hp, hs⟩ := srt_spec l
  have hst := strict_of hs (hp.nodup_iff.mpr hn)
  have e1 := List.getElem?_eq_some_iff.mp (idxI_get (hp.mem_iff.mpr hx))
  have e2 := List.getElem?_eq_some_iff.mp (idxI_get (hp.mem_iff.mpr hy))
  obtain ⟨h1, e1⟩ := e1
  obtain ⟨h2, e2⟩ := e2
  have key := List.pairwise_iff_getElem.mp hst
  rcases Nat.lt_trichotomy (idxI (srt l) x) (idxI (srt l) y) with h | h | h
  · have := key _ _ h1 h2 h
    omega
  · have : x = y := by rw [← e1, ← e2]; congr 1
    omega
  · have := key _ _ h2 h1 h
    omega
theorem like_iff {row pat lot : List Int} (hr : IsRow row) (hp : IsRow pat) (hl : Lot row.length pat.length lot) : likeI (lot.map (atI0 row)) = pat ↔ lot ∈ plc row pat := by
  have ll := hl.len
  have hn : (lot.map (atI0 row)).Nodup := places_nodup hr.nodup hl.bd hl.up
  have hg : ∀ i, i < pat.length → pG (lot.map (atI0 row)) i = atI0 row (pG lot i) := fun i hi => pG_of (by
    rw [List.getElem?_map, pG_get (show i < lot.length by omega)]
    rfl)
  have hm : ∀ i, i < pat.length → pG (lot.map (atI0 row)) i ∈ lot.map (atI0 row) := fun i hi => List.mem_of_getElem? (pG_get (by rw [List.length_map]; omega))
  constructor
  · intro e
    have at_ : ∀ i, i < pat.length → pG pat i = ((idxI (srt (lot.map (atI0 row))) (atI0 row (pG lot i)) : Nat) : Int) := fun i hi => by
      rw [← hg i hi]
      conv => lhs; rw [← e]
      apply pG_of
      unfold likeI
      rw [List.getElem?_map, pG_get (show i < (lot.map (atI0 row)).length by rw [List.length_map]; omega)]
      rfl
    refine mem_plc.mpr ⟨⟨by omega, fun i hi => ?_, fun i j hij hj => ?_, fun i j hij hj => ?_⟩, ll⟩
    · have := hl.bd (pG lot i) (List.mem_of_getElem? (pG_get hi))
      omega
    · have h1 := List.pairwise_iff_getElem.mp hl.up i j (by omega) hj hij
      rw [pG_of (List.getElem?_eq_getElem (show i < lot.length by omega)), pG_of (List.getElem?_eq_getElem hj)]
      exact h1
    · have m1 := hm i (by omega)
      have m2 := hm j (by omega)
      rw [hg i (by omega)] at m1
      rw [hg j (by omega)] at m2
      have a1 := idx_mono hn m1 m2
      have a2 := idx_mono hn m2 m1
      rw [at_ i (by omega), at_ j (by omega)]
      have ne : pG pat i ≠ pG pat j := fun z => by
        have := pG_nodup hp.nodup (by omega) (by omega) z
        omega
      rw [at_ i (by omega), at_ j (by omega)] at ne
      split
      · exact a1.mp (by omega)
      · exact a2.mp (by omega)
  · intro h
    obtain ⟨h1, h2⟩ := mem_plc.mp h
    refine like_of hn hp (by rw [List.length_map]; exact ll) fun i j hi hj => ?_
    rw [hg i hi, hg j hj]
    refine ⟨fun h => ?_, fun h => h1.mono hp.nodup (by omega) (by omega) h⟩
    by_cases c : pG pat i < pG pat j
    · exact c
    · exfalso
      by_cases e : i = j
      · subst e
        omega
      · have ne : pG pat i ≠ pG pat j := fun z => e (pG_nodup hp.nodup hi hj z)
        have := h1.mono hp.nodup (i := j) (j := i) (by omega) (by omega) (by omega)
        omega
/-! ### placings with ties -/
def tiedB (ties : List Int) (k : Nat) (x : List Int) : Bool := ties.all fun j => decide (j.toNat + 1 < k → pG x j.toNat + 1 = pG x (j.toNat + 1))
theorem tiedB_iff {ties : List Int} {k : Nat} {x : List Int} : tiedB ties k x = true ↔ ∀ j ∈ ties, j.toNat + 1 < k → pG x j.toNat + 1 = pG x (j.toNat + 1) := by
  unfold tiedB
  rw [List.all_eq_true]
  exact ⟨fun h j hj => of_decide_eq_true (h j hj), fun h j hj => decide_eq_true (h j hj)⟩
def jnx (row pat ties places : List Int) : List Int := if ((places.length : Int) - 1) ∈ ties then (nextsP row pat places).filter (fun x => decide (x = startOf places)) else nextsP row pat places
def jext (row pat ties : List Int) : Nat → List Int → List (List Int)
  | 0, _ => []
  | f + 1, places => if places.length = pat.length then [places] else (jnx row pat ties places).flatMap fun x => jext row pat ties f (places ++ [x])
theorem jnx_sub {row pat ties places : List Int} {x : Int} (h : x ∈ jnx row pat ties places) : x ∈ nextsP row pat places := by
  unfold jnx at h
  split at h
  · exact (List.mem_filter.mp h).1
  · exact h
/-- ties that a pattern may bear -/
def TiesOk (m : Nat) (ties : List Int) : Prop := ∀ t ∈ ties, 0 ≤ t ∧ t ≤ (m : Int) - 2
theorem tied_pre {ties p x : List Int} {k m : Nat} (h : p <+: x) (hk : k ≤ p.length) (hm : k ≤ m) (ht : tiedB ties m x = true) : tiedB ties k p = true := tiedB_iff.mpr fun j hj hlt => by
  rw [← pre_pG h (by omega), ← pre_pG h (by omega)]
  exact tiedB_iff.mp ht j hj (by omega)
theorem tied_add {ties places : List Int} {v : Int} (h0 : ∀ t ∈ ties, 0 ≤ t) (h : tiedB ties places.length places = true) : tiedB ties (places.length + 1) (places ++ [v]) = true ↔ (((places.length : Int) - 1) ∈ ties → v = startOf places) := by
  rw [tiedB_iff]
  constructor
  · intro a hm
    have hl : 0 < places.length := by have := h0 _ hm; omega
    have b := a _ hm (by omega)
    rw [show ((places.length : Int) - 1).toNat = places.length - 1 by omega, show places.length - 1 + 1 = places.length by omega, pG_last, pG_app (by omega)] at b
    rw [start_last hl, b]
  · intro a j hj hlt
    have j0 := h0 j hj
    by_cases c : j.toNat + 1 < places.length
    · rw [pG_app (by omega), pG_app (by omega)]
      exact tiedB_iff.mp h j hj c
    · have e : j = (places.length : Int) - 1 := by omega
      subst e
      have hl : 0 < places.length := by omega
      rw [show ((places.length : Int) - 1).toNat = places.length - 1 by omega, show places.length - 1 + 1 = places.length by omega, pG_last, pG_app (by omega), a hj, start_last hl]
theorem jext_ext {row pat ties : List Int} (h0 : ∀ t ∈ ties, 0 ≤ t) : ∀ (f : Nat) (places : List Int), Pl row pat places → pat.length < f + places.length → tiedB ties places.length places = true → jext row pat ties f places = (ext row pat f places).filter (tiedB ties pat.length)
  | 0, places, hp, hf, ht => absurd hp.le (by omega)
  | f + 1, places, hp, hf, ht => by
    unfold jext ext
    by_cases c : places.length = pat.length
    · rw [if_pos c, if_pos c, List.filter_cons_of_pos (by rw [← c]; exact ht), List.filter_nil]
    · rw [if_neg c, if_neg c, List.filter_flatMap]
      have hl : places.length < pat.length := by have := hp.le; omega
      have el : ∀ v : Int, (places ++ [v]).length = places.length + 1 := fun v => by rw [List.length_append]; rfl
      have step : ∀ v ∈ nextsP row pat places, (((places.length : Int) - 1) ∈ ties → v = startOf places) → jext row pat ties f (places ++ [v]) = (ext row pat f (places ++ [v])).filter (tiedB ties pat.length) := fun v hv hc =>
        jext_ext h0 f _ (hp.add hl hv) (by rw [el]; omega) (by rw [el]; exact (tied_add h0 ht).mpr hc)
      unfold jnx
      split
      · rename_i hm
        rw [fm_if]
        refine fm_congr fun v hv => ?_
        by_cases e : v = startOf places
        · rw [if_pos (decide_eq_true e)]
          exact step v hv fun _ => e
        · rw [if_neg (by rw [decide_eq_true_eq]; exact e)]
          refine (List.filter_eq_nil_iff.mpr fun y hy z => e ?_).symm
          exact (tied_add h0 ht).mp (tied_pre (pre_ext f _ _ hy) (by rw [el]; exact Nat.le_refl _) (by omega) z) hm
      · rename_i hm
        exact fm_congr fun v hv => step v hv fun z => absurd z hm
def jplc (row pat ties : List Int) : List (List Int) := (plc row pat).filter (tiedB ties pat.length)
theorem jplc_ext {row pat ties : List Int} (h0 : ∀ t ∈ ties, 0 ≤ t) {f : Nat} (hf : pat.length < f) : jext row pat ties f [] = jplc row pat ties := by
  rw [jext_ext h0 f [] (Pl.nil row pat) hf (tiedB_iff.mpr fun j hj h => absurd h (Nat.not_lt_zero _))]
  unfold jplc plc
  rw [ext_fuel f (pat.length + 1) [] hf (Nat.lt_succ_self _) (Nat.zero_le _)]
theorem mem_jplc {row pat ties x : List Int} : x ∈ jplc row pat ties ↔ (Pl row pat x ∧ x.length = pat.length) ∧ tiedB ties pat.length x = true := by
  unfold jplc
  rw [List.mem_filter, mem_plc]
theorem jplc_nodup {row pat ties : List Int} : (jplc row pat ties).Nodup := List.Nodup.sublist List.filter_sublist (ext_nodup _ _)
theorem jplc_flip {row pat ties : List Int} (hn : pat.Nodup) : (jplc (flipI row) (flipI pat) ties).length = (jplc row pat ties).length := by
  have half : ∀ {row pat : List Int}, pat.Nodup → (jplc row pat ties).length ≤ (jplc (flipI row) (flipI pat) ties).length := fun {row pat} hn =>
    nodup_len_le id _ _ jplc_nodup (fun x hx => by
      obtain ⟨⟨a, b⟩, c⟩ := mem_jplc.mp hx
      exact mem_jplc.mpr ⟨⟨a.flip hn, by rw [flip_len]; exact b⟩, by rw [flip_len]; exact c⟩) fun x _ y _ e => e
  refine Nat.le_antisymm ?_ (half hn)
  have := half (row := flipI row) (flip_nodup hn)
  rw [flip_flip, flip_flip] at this
  exact this
def backT (m : Nat) (ties : List Int) : List Int := ties.reverse.map fun t => (m : Int) - 2 - t
theorem backT_ok {m : Nat} {ties : List Int} (h : TiesOk m ties) : TiesOk m (backT m ties) := fun t ht => by
  obtain ⟨u, hu, rfl⟩ := List.mem_map.mp ht
  have := h u (List.mem_reverse.mp hu)
  omega
theorem backT_back (m : Nat) (ties : List Int) : backT m (backT m ties) = ties := by
  unfold backT
  rw [← List.map_reverse, List.reverse_reverse, List.map_map]
  exact (List.map_congr_left fun t _ => by show (m : Int) - 2 - (m - 2 - t) = t; omega).trans (List.map_id ties)
theorem tied_back {m n : Nat} {ties x : List Int} (ht : TiesOk m ties) (hx : x.length = m) (h : tiedB ties m x = true) : tiedB (backT m ties) m (revX n x) = true := tiedB_iff.mpr fun j hj hlt => by
  obtain ⟨u, hu, rfl⟩ := List.mem_map.mp hj
  have hu := List.mem_reverse.mp hu
  have b := ht u hu
  have := tiedB_iff.mp h u hu (by omega)
  rw [pG_revX (by omega), pG_revX (by omega), show x.length - 1 - ((m : Int) - 2 - u).toNat = u.toNat + 1 by omega, show x.length - 1 - (((m : Int) - 2 - u).toNat + 1) = u.toNat by omega]
  omega
theorem jplc_rev {row pat ties : List Int} (hn : pat.Nodup) (ht : TiesOk pat.length ties) : (jplc row.reverse pat.reverse (backT pat.length ties)).length = (jplc row pat ties).length := by
  have half : ∀ {row pat ties : List Int}, pat.Nodup → TiesOk pat.length ties → (jplc row pat ties).length ≤ (jplc row.reverse pat.reverse (backT pat.length ties)).length := fun {row pat ties} hn ht =>
    nodup_len_le (revX row.length) _ _ jplc_nodup (fun x hx => by
      obtain ⟨⟨a, b⟩, c⟩ := mem_jplc.mp hx
      exact mem_jplc.mpr ⟨⟨a.rev hn b, by rw [revX_len, b, List.length_reverse]⟩, by rw [List.length_reverse]; exact tied_back ht b c⟩) fun x _ y _ e => revX_one e
  refine Nat.le_antisymm ?_ (half hn ht)
  have hl : pat.reverse.length = pat.length := List.length_reverse
  have := half (row := row.reverse) (pat := pat.reverse) (ties := backT pat.length ties) (List.pairwise_reverse.mpr (List.Pairwise.imp Ne.symm hn)) (by rw [hl]; exact backT_ok ht)
  rw [List.reverse_reverse, List.reverse_reverse, hl, backT_back] at this
  exact this
theorem jplc_less {row pat ties : List Int} (n : Nat) : (jplc row pat ties).length ≤ (jplc row pat (ties.drop n)).length :=
  nodup_len_le id _ _ jplc_nodup (fun x hx => by
    obtain ⟨a, c⟩ := mem_jplc.mp hx
    exact mem_jplc.mpr ⟨a, tiedB_iff.mpr fun j hj => tiedB_iff.mp c j (List.mem_of_mem_drop hj)⟩) fun x _ y _ e => e
theorem jplc_few {row pat ties : List Int} (h1 : row.length ≤ 9) (h2 : pat.length ≤ 5) : (jplc row pat ties).length ≤ 126 := Nat.le_trans (List.length_filter_le _ _) (plc_few h1 h2)
theorem tied_all {ties x : List Int} {m : Nat} (ht : TiesOk m ties) : tiedB ties m x = ties.all fun j => decide (pG x j.toNat + 1 = pG x (j.toNat + 1)) := by
  rw [Bool.eq_iff_iff, tiedB_iff, List.all_eq_true]
  exact ⟨fun h j hj => decide_eq_true (h j hj (by have := ht j hj; omega)), fun h j hj _ => of_decide_eq_true (h j hj)⟩

end Tr

namespace Tr
open PySem L2
local macro_rules | `(tactic| array_get_dec) => `(tactic| ((conv => whnf); (repeat (first | ((with_reducible refine if_nT ?_); conv => whnf) | ((with_reducible refine if_T ?_); conv => whnf) | ((with_reducible refine if_nT2 ?_); conv => whnf) | ((with_reducible refine if_nF ?_); conv => whnf) | ((with_reducible refine if_yes ?_); conv => whnf) | ((with_reducible refine if_no ?_); conv => whnf) | ((with_reducible refine if_bT ?_); conv => whnf) | ((with_reducible refine if_bF ?_); conv => whnf) | (focus ((with_reducible refine if_dec ?_ ?_); rotate_left; (intro c; exact absurd (by first | (with_reducible rfl) | omega) c); intro _; conv => whnf)) | (focus ((with_reducible refine if_dec ?_ ?_); (intro c; exact absurd c (by omega)); intro _; conv => whnf)) | (focus ((with_reducible refine if_ndec ?_ ?_); rotate_left; (intro c; exact absurd c (by omega)); intro _; conv => whnf)) | (focus ((with_reducible refine if_ndec ?_ ?_); (intro c; exact absurd (by first | (with_reducible rfl) | omega) c); intro _; conv => whnf)) | (focus ((with_reducible refine if_eqi ?_ ?_); rotate_left; (intro c; exact absurd (by first | (with_reducible rfl) | omega) c); intro _; conv => whnf)) | (focus ((with_reducible refine if_eqi ?_ ?_); (intro c; exact absurd c (by omega)); intro _; conv => whnf)) | (focus ((with_reducible refine if_nei ?_ ?_); rotate_left; (intro c; exact absurd c (by omega)); intro _; conv => whnf)) | (focus ((with_reducible refine if_nei ?_ ?_); (intro c; exact absurd (by first | (with_reducible rfl) | omega) c); intro _; conv => whnf)) | (refine And.intro (by first | exact trivial | assumption | exact rfl | (with_reducible exact And.intro (by first | assumption | exact shp_int _ | exact shp_tI _ | exact shp_lI _) (by first | assumption | exact shp_int _ | exact shp_tnil | exact shp_nil | exact shp_tI _ | exact shp_lI _)) | (with_reducible exact RcOk.mk6 (by decide) (by decide) (by decide) (by omega) (by omega) (by omega) (by omega)) | decide | omega | (simp only [List.length_map, List.length_append, List.length_reverse, List.length_replicate, List.length_cons, List.length_nil, List.length_set, List.length_range]; omega)) ?_; conv => whnf) | simp only [List.set_cons_zero, List.set_cons_succ, List.length_cons, List.length_nil, List.length_map, List.cons_append, List.nil_append, List.replicate_succ, List.replicate_zero, Nat.reduceAdd, Nat.reduceSub]))))
section
theorem atI_lst {p : List Int} (h : 0 < p.length) : atI (p.map PyData.int) (-1) = some (.int (pG p (p.length - 1))) := by
  unfold atI
  have e : ixN (p.map PyData.int).length (-1) = some (p.length - 1) := by
    rw [List.length_map]
    unfold ixN
    rw [if_neg (by omega), if_pos (by omega)]
    congr 1
    omega
  rw [e]
  show (p.map PyData.int)[p.length - 1]? = _
  rw [List.getElem?_map, pG_get (by omega)]
  rfl
end
/-- placings that go on from a beginning -/
def Goes (row pat c : List Int) : Prop := ∃ x, (Pl row pat x ∧ x.length = pat.length) ∧ c <+: x
theorem goes_step {row pat c : List Int} (hp : Pl row pat c) (hl : c.length < pat.length) : Goes row pat c ↔ ∃ v ∈ nextsP row pat c, Goes row pat (c ++ [v]) := by
  constructor
  · rintro ⟨x, ⟨h1, h2⟩, h3⟩
    have := (mem_ext (pat.length + 1) c x hp (by omega)).mpr ⟨h1, h2, h3⟩
    rw [ext, if_neg (by omega)] at this
    obtain ⟨v, hv, hx⟩ := List.mem_flatMap.mp this
    obtain ⟨a1, a2, a3⟩ := (mem_ext pat.length (c ++ [v]) x (hp.add hl hv) (by rw [List.length_append]; show _ < pat.length + (c.length + 1); omega)).mp hx
    exact ⟨v, hv, x, ⟨a1, a2⟩, a3⟩
  · rintro ⟨v, hv, x, h1, h2⟩
    exact ⟨x, h1, (List.prefix_append _ _).trans h2⟩
theorem goes_nil {row pat : List Int} : Goes row pat [] ↔ plc row pat ≠ [] := by
  constructor
  · rintro ⟨x, h, _⟩ e
    have := mem_plc.mpr h
    rw [e] at this
    exact absurd this List.not_mem_nil
  · intro h
    obtain ⟨x, hx⟩ := List.exists_mem_of_ne_nil _ h
    exact ⟨x, mem_plc.mp hx, List.nil_prefix⟩
def wtC (k : Nat) (c : List Int) : Nat := 8 ^ (k - c.length)
def wtT (k : Nat) (T : List (List Int)) : Nat := (T.map (wtC k)).sum
theorem wt_app (k : Nat) (A B : List (List Int)) : wtT k (A ++ B) = wtT k A + wtT k B := by
  unfold wtT
  rw [List.map_append, List.sum_append]
theorem wt_ext (k : Nat) (c : List Int) : ∀ L : List Int, wtT k (L.map fun v => c ++ [v]) = L.length * 8 ^ (k - (c.length + 1))
  | [] => by rw [List.map_nil, List.length_nil, Nat.zero_mul]; rfl
  | v :: L => by
    rw [List.map_cons, List.length_cons, show (c ++ [v]) :: L.map (fun v => c ++ [v]) = [c ++ [v]] ++ L.map (fun v => c ++ [v]) from rfl, wt_app, wt_ext k c L, Nat.add_mul, Nat.one_mul, Nat.add_comm]
    congr 1
    unfold wtT wtC
    rw [List.map_cons, List.map_nil, List.sum_cons, List.sum_nil, List.length_append]
    rfl
theorem len_wt (k : Nat) : ∀ T : List (List Int), T.length ≤ wtT k T
  | [] => Nat.zero_le _
  | c :: T => by
    rw [List.length_cons, show c :: T = [c] ++ T from rfl, wt_app]
    have := len_wt k T
    have h1 : 0 < wtT k [c] := by
      unfold wtT wtC
      rw [List.map_cons, List.map_nil, List.sum_cons, List.sum_nil]
      have := Nat.pow_pos (n := k - c.length) (show 0 < 8 by decide)
      omega
    omega
/-- what is pushed after so many places, from the last one on -/
def downL (row pat c : List Int) (n : Nat) : List Int := ((List.range n).map fun t : Nat => (row.length : Int) - pat.length + c.length - (t : Int)).filter (okAt row pat c)
theorem downL_succ (row pat c : List Int) (n : Nat) : downL row pat c (n + 1) = downL row pat c n ++ if okAt row pat c ((row.length : Int) - pat.length + c.length - (n : Int)) = true then [(row.length : Int) - pat.length + c.length - (n : Int)] else [] := by
  unfold downL
  rw [List.range_succ, List.map_append, List.filter_append]
  congr 1
  show List.filter _ [_] = _
  rw [List.filter_cons]
  rfl
theorem downL_len (row pat c : List Int) (n : Nat) : (downL row pat c n).length ≤ n := by
  unfold downL
  exact Nat.le_trans (List.length_filter_le _ _) (by rw [List.length_map, List.length_range]; exact Nat.le_refl _)
theorem rangeC_down {a : Int} {n i : Nat} {d : D} (h : (rangeC a (-1) n)[i]? = some d) : i < n ∧ d = .int (a - (i : Int)) := by
  unfold rangeC at h
  rw [List.getElem?_map] at h
  obtain ⟨j, h1, h2⟩ := Option.map_eq_some_iff.mp h
  have hi := (List.getElem?_eq_some_iff.mp h1).1
  rw [List.length_range] at hi
  rw [List.getElem?_range hi] at h1
  cases h1
  exact ⟨hi, by rw [← h2]; congr 1; omega⟩
theorem last_get {A : List D} {d : D} : (A ++ [d])[(A ++ [d]).length - 1]? = some d := by
  rw [List.length_append, List.getElem?_append_right (by show A.length ≤ A.length + 1 - 1; omega)]
  show [d][A.length + 1 - 1 - A.length]? = some d
  rw [show A.length + 1 - 1 - A.length = 0 by omega]
  rfl
section
variable {Qd : R → Rn → Prop} {Qx : Xn → Prop} {row pat places : List Int}
theorem rev_range (a : Int) (n : Nat) : ((List.range n).map fun t : Nat => a - (t : Int)).reverse = irange (a - n + 1) (a + 1) := by
  refine List.ext_getElem (by simp [irange]; omega) fun i h1 h2 => ?_
  simp only [List.length_reverse, List.length_map, List.length_range] at h1
  simp only [irange, List.getElem_reverse, List.getElem_map, List.getElem_range, List.length_map, List.length_range]
  omega
theorem down_nexts {c : List Int} (hl : c.length ≤ pat.length) : (downL row pat c ((row.length : Int) - pat.length + c.length - (startOf c - 1)).toNat).reverse = nextsP row pat c := by
  unfold downL nextsP
  rw [← List.filter_reverse, rev_range]
  congr 1
  unfold irange
  by_cases h : startOf c ≤ (row.length : Int) - pat.length + c.length + 1
  · congr 1
    · funext i
      omega
    · congr 1
      omega
  · rw [show ((row.length : Int) - pat.length + c.length + 1 - ((row.length : Int) - pat.length + c.length - ((((row.length : Int) - pat.length + c.length - (startOf c - 1)).toNat : Nat) : Int) + 1)).toNat = 0 by omega, show ((row.length : Int) - ((pat.length : Int) - c.length) + 1 - startOf c).toNat = 0 by omega]
    rfl
/-- the least placing, as it is told -/
def plcD (row pat : List Int) : D := match plc row pat with
  | [] => .none
  | x :: _ => tupD x
theorem placing_ok (hr : IsRow row) (hl : row.length ≤ 7) (hp3 : pat.length ≤ 5) (hq : ∀ ρ, Qd (.im (plcD row pat)) ρ) : fnW 6 w_u_law_placing [.im (.tuple (row.map PyData.int)), .im (.tuple (pat.map PyData.int))] Qd Qx := by
  have h4 : wtT pat.length [[]] ≤ 32768 := by
    show 8 ^ (pat.length - 0) + 0 ≤ 32768
    exact Nat.le_trans (Nat.pow_le_pow_right (by decide) (show pat.length - 0 ≤ 5 by omega)) (by decide)
  refine fnW.mk ?_
  array_get_dec
  refine wWhile_inv (fun m ρ => ∃ (T : List (List Int)) (y z u : Sl), ρ = [.im (.tuple (row.map PyData.int)), .im (.tuple (pat.map PyData.int)), .ow false (T.map tupD), y, z, u] ∧ m = wtT pat.length T ∧ m ≤ 32768 ∧ (∀ c ∈ T, Pl row pat c) ∧ plc row pat = T.reverse.flatMap (eF row pat)) (wtT pat.length [[]]) ⟨[[]], _, _, _, rfl, rfl, h4, fun c hc => by rw [List.mem_singleton.mp hc]; exact Pl.nil row pat, by show _ = List.flatMap (eF row pat) [[]]; rw [List.flatMap_cons, List.flatMap_nil, List.append_nil]; rfl⟩ fun m ρ N ⟨T, y, z, u, e, hm, hm4, hT, hg⟩ hN => ?_
  subst e
  have hTl := len_wt pat.length T
  have hfit : ∀ c ∈ T, Fit 100 1 (tupD c) := fun c hc => by
    have h := hT c hc
    refine Fit.tI (p := c) (fun x hx => ?_) (by have := h.le; omega) (by decide)
    obtain ⟨i, hi⟩ := List.getElem?_of_mem hx
    have b := h.bd i (List.getElem?_eq_some_iff.mp hi).1
    rw [pG_of hi] at b
    have e : (10 : Nat) ^ 30 = 1000000000000000000000000000000 := by decide
    omega
  have sT : Shp (.list (T.map tupD)) := (Fit.list (b' := (T.map tupD).length * 101) (k' := 2) (fun d hd => by
    obtain ⟨c, hc, rfl⟩ := List.mem_map.mp hd
    exact hfit c hc) (Nat.le_refl _) (by decide)).shp (by decide)
  have s0 : Shp (.list []) := shp_nil
  array_get_dec
  rw [eqv_nil]
  rcases List.eq_nil_or_concat T with rfl | ⟨T', c, rfl⟩
  · refine if_hid (fun z => absurd z (by decide)) fun _ => ?_
    array_get_dec
    have hq2 := hq
    unfold plcD at hq2
    rw [hg] at hq2
    exact hq2 _
  · have hc := hT c (by simp)
    have hcl := hc.le
    rw [List.concat_eq_append, List.map_append] 
    refine if_hid (fun _ => ?_) fun z => absurd z (by simp)
    rw [show [c].map tupD = [PyData.tuple (c.map PyData.int)] from rfl]
    array_get_dec
    rw [last_get, List.dropLast_concat]
    generalize eT : wSeq (wSet 4 _) _ = W
    array_get_dec
    refine if_eqi (fun e => ?_) fun e => ?_
    · array_get_dec
      have hq2 := hq
      have ec : eF row pat c = [c] := by
        unfold eF
        rw [show pat.length + 1 - c.length = 0 + 1 by omega, ext, if_pos (by omega)]
      unfold plcD at hq2
      rw [hg, List.concat_eq_append, List.reverse_append, List.flatMap_append] at hq2
      rw [show List.flatMap (eF row pat) [c].reverse = [c] by show List.flatMap (eF row pat) [c] = _; rw [List.flatMap_cons, List.flatMap_nil, List.append_nil, ec]] at hq2
      exact hq2 _
    · have hlt : c.length < pat.length := by omega
      have st0 := hc.start0
      have st1 := hc.start1
      rw [← eT]
      generalize eU : wFor (wiC _) _ _ = U
      have key : ∀ (P : Po) (z' u' : Sl), P.nx = N → U P [.im (.tuple (row.map PyData.int)), .im (.tuple (pat.map PyData.int)), .ow false (T'.map tupD), .im (.tuple (c.map PyData.int)), .im (.int (startOf c)), u'] := fun P z' u' eP => by
        rw [← eU]
        have hle := hc.le
        array_get_dec
        have hn1 : ((row.length : Int) - pat.length + c.length - (startOf c - 1)).toNat ≤ 7 := by omega
        refine ⟨_, RgC.neg (by omega) (by omega) (by omega) (by omega), ?_⟩
        generalize hnn : ((row.length : Int) - pat.length + c.length - (startOf c - 1)).toNat = n at hn1
        refine wLoop_inv _ (fun i ρ => i ≤ n ∧ ∃ y5, ρ = [.im (.tuple (row.map PyData.int)), .im (.tuple (pat.map PyData.int)), .ow false ((T' ++ (downL row pat c i).map fun v => c ++ [v]).map tupD), .im (.tuple (c.map PyData.int)), .im (.int (startOf c)), y5]) ⟨Nat.zero_le _, _, by rw [show downL row pat c 0 = [] from rfl, List.map_nil, List.append_nil]⟩ (fun i d ρ M he ⟨hin, y5, e⟩ hM => ?_) fun ρ ⟨hin, y5, e⟩ => ?_
        · subst e
          obtain ⟨hi2, rfl⟩ := rangeC_down he
          have hv1 : startOf c ≤ (row.length : Int) - pat.length + c.length - (i : Int) := by omega
          have hv2 : (row.length : Int) - pat.length + c.length - (i : Int) < row.length := by omega
          have hlen := downL_len row pat c i
          have hal : ((T' ++ (downL row pat c i).map fun v => c ++ [v]).map tupD).length < 100000 := by
            rw [List.length_map, List.length_append, List.length_map]
            have : (T' ++ [c]).length ≤ 32768 := by
              rw [← List.concat_eq_append]
              omega
            rw [List.length_append] at this
            omega
          rw [downL_succ] at hM
          generalize (row.length : Int) - pat.length + c.length - (i : Int) = v at hv1 hv2 hM ⊢
          array_get_dec
          refine fits_ok hr.nodup hc hlt hv1 hv2 (by omega) (by omega) fun ρ => ?_
          cases eo : okAt row pat c v with
          | true =>
            rw [eo, if_pos rfl, show (T' ++ (downL row pat c i ++ [v]).map fun v => c ++ [v]).map tupD = (T' ++ (downL row pat c i).map fun v => c ++ [v]).map tupD ++ [.tuple (c.map PyData.int ++ [.int v])] by simp [tupD]] at hM
            array_get_dec
            exact hM _ ⟨by omega, _, rfl⟩
          | false =>
            rw [eo, if_neg (by decide), List.append_nil] at hM
            array_get_dec
            exact hM _ ⟨by omega, _, rfl⟩
        · subst e
          rw [eP, rangeC_len]
          have hlen := downL_len row pat c n
          have hpow : 8 ^ (pat.length - c.length) = 8 * 8 ^ (pat.length - (c.length + 1)) := by
            rw [show pat.length - c.length = (pat.length - (c.length + 1)) + 1 by omega, Nat.pow_succ, Nat.mul_comm]
          have hpos := Nat.pow_pos (n := pat.length - (c.length + 1)) (show 0 < 8 by decide)
          have hmul : (downL row pat c n).length * 8 ^ (pat.length - (c.length + 1)) ≤ 7 * 8 ^ (pat.length - (c.length + 1)) := Nat.mul_le_mul_right _ (by omega)
          have hw1 : wtT pat.length (T' ++ [c]) = wtT pat.length T' + 8 ^ (pat.length - c.length) := by
            rw [wt_app]
            rfl
          have hw2 : wtT pat.length (T' ++ (downL row pat c n).map fun v => c ++ [v]) = wtT pat.length T' + (downL row pat c n).length * 8 ^ (pat.length - (c.length + 1)) := by rw [wt_app, wt_ext]
          rw [List.concat_eq_append] at hm
          have hmem : ∀ v, v ∈ downL row pat c n ↔ v ∈ nextsP row pat c := fun v => by
            rw [nextsP, List.mem_filter, mem_irange, downL, List.mem_filter, List.mem_map]
            constructor
            · rintro ⟨⟨t, ht, rfl⟩, h2⟩
              have := List.mem_range.mp ht
              exact ⟨by omega, h2⟩
            · rintro ⟨h1, h2⟩
              exact ⟨⟨((row.length : Int) - pat.length + c.length - v).toNat, List.mem_range.mpr (by omega), by omega⟩, h2⟩
          refine hN _ _ (by omega) ⟨T' ++ (downL row pat c n).map fun v => c ++ [v], _, _, _, rfl, rfl, by omega, fun x hx => ?_, ?_⟩
          · rcases List.mem_append.mp hx with z | z
            · exact hT x (by simp [z])
            · obtain ⟨v, hv, rfl⟩ := List.mem_map.mp z
              exact hc.add hlt ((hmem v).mp hv)
          · rw [hg, List.concat_eq_append, List.reverse_append, List.reverse_append, List.flatMap_append, List.flatMap_append]
            congr 1
            show List.flatMap (eF row pat) [c] = _
            rw [List.flatMap_cons, List.flatMap_nil, List.append_nil, eF_cut hlt, ← List.map_reverse, ← hnn, down_nexts (by omega), List.flatMap_map]
      array_get_dec
      rw [eqv_tnil]
      refine if_ndec (fun c1 => ?_) fun c1 => ?_
      · have c0 : 0 < c.length := Nat.pos_of_ne_zero fun z => c1 (List.length_eq_zero_iff.mp z)
        have hlast := hc.bd (c.length - 1) (by omega)
        array_get_dec
        rw [atI_lst c0]
        array_get_dec
        rw [← start_last c0]
        exact key _ z u rfl
      · have : startOf c = 0 := by rw [c1]; rfl
        rw [this] at key
        array_get_dec
        exact key _ z u rfl
end
section
variable {Qd : R → Rn → Prop} {Qx : Xn → Prop} {row pat places : List Int}
theorem is_in_ok (hr : IsRow row) (hl : row.length ≤ 7) (hp3 : pat.length ≤ 5) (hq : ∀ ρ, Qd (.im (.bool (!decide (plc row pat = [])))) ρ) : fnW 2 w_u_law_is_in [.im (.tuple (pat.map PyData.int)), .im (.tuple (row.map PyData.int))] Qd Qx := by
  refine fnW.mk ?_
  array_get_dec
  refine placing_ok hr hl hp3 fun ρ => ?_
  unfold plcD
  cases e : plc row pat with
  | nil =>
    rw [e] at hq
    array_get_dec
    exact hq _
  | cons x xs =>
    rw [e] at hq
    unfold tupD
    array_get_dec
    exact hq _
end
end Tr

namespace Tr
open PySem L2
/-! ### within -/
def Wn (p r : List Int) : Prop := plc r p ≠ []
theorem wn_iff {p r : List Int} : Wn p r ↔ ∃ x, Pl r p x ∧ x.length = p.length := by
  constructor
  · intro h
    obtain ⟨x, hx⟩ := List.exists_mem_of_ne_nil _ h
    exact ⟨x, mem_plc.mp hx⟩
  · rintro ⟨x, hx⟩ e
    have := mem_plc.mpr hx
    rw [e] at this
    exact nomatch this
theorem pG_map {l : List Int} (f : Int → Int) {i : Nat} (h : i < l.length) : pG (l.map f) i = f (pG l i) := pG_of (by rw [List.getElem?_map, pG_get h]; rfl)
theorem wn_trans {p q r : List Int} (h1 : Wn p q) (h2 : Wn q r) : Wn p r := by
  obtain ⟨x, hx, lx⟩ := wn_iff.mp h1
  obtain ⟨y, hy, ly⟩ := wn_iff.mp h2
  refine wn_iff.mpr ⟨x.map (atI0 y), ?_, by rw [List.length_map]; exact lx⟩
  have g : ∀ i, i < x.length → pG (x.map (atI0 y)) i = pG y (pG x i).toNat := fun i hi => pG_map _ hi
  refine ⟨by rw [List.length_map]; omega, fun i hi => ?_, fun i j hij hj => ?_, fun i j hij hj => ?_⟩
  · rw [List.length_map] at hi
    have := hx.bd i hi
    rw [g i hi]
    exact hy.bd _ (by omega)
  · rw [List.length_map] at hj
    have a := hx.bd i (by omega)
    have b := hx.bd j hj
    have := hx.up i j hij hj
    rw [g i (by omega), g j hj]
    exact hy.up _ _ (by omega) (by omega)
  · rw [List.length_map] at hj
    have a := hx.bd i (by omega)
    have b := hx.bd j hj
    have c := hx.up i j hij hj
    have d := hx.is i j hij hj
    have e := hy.is (pG x i).toNat (pG x j).toNat (by omega) (by omega)
    rw [g i (by omega), g j hj]
    unfold atI0 at d e ⊢
    split at d
    · rename_i h
      rw [if_pos h]
      rw [if_pos d] at e
      exact e
    · rename_i h
      rw [if_neg h]
      rw [if_neg (by omega)] at e
      exact e
/-- a lot's likeness is within -/
theorem like_wn {row lot : List Int} {m : Nat} (hr : IsRow row) (hl : Lot row.length m lot) (hp : IsRow (likeI (lot.map (atI0 row)))) : Wn (likeI (lot.map (atI0 row))) row := by
  have e : (likeI (lot.map (atI0 row))).length = m := by unfold likeI; rw [List.length_map, List.length_map, hl.len]
  have h := (like_iff hr hp (by rw [e]; exact hl)).mp rfl
  intro z
  rw [z] at h
  exact nomatch h
theorem nodup_range_perm : ∀ {l : List Int}, l.Nodup → (∀ x ∈ l, 0 ≤ x ∧ x < l.length) → IsRow l := fun {l} hn hb => by
  refine perm_of_sub _ _ hn (fun x hx => ?_) (by rw [List.length_map, List.length_range])
  have := hb x hx
  exact List.mem_map.mpr ⟨x.toNat, List.mem_range.mpr (by omega), by show ((x.toNat : Nat) : Int) = x; omega⟩
theorem likeI_row {l : List Int} (hn : l.Nodup) : IsRow (likeI l) := by
  obtain ⟨_, hp, hs⟩ := srt_spec l
  refine nodup_range_perm ?_ fun x hx => ?_
  · unfold likeI List.Nodup
    rw [List.pairwise_map]
    have : l.Pairwise fun a b => a ≠ b ∧ a ∈ l ∧ b ∈ l := by
      have h1 : ∀ m : List Int, m.Nodup → m.Pairwise fun a b => a ≠ b ∧ a ∈ m ∧ b ∈ m := by
        intro m
        induction m with
        | nil => intro _; exact .nil
        | cons a m ih =>
          intro h
          obtain ⟨h1, h2⟩ := List.nodup_cons.mp h
          refine .cons (fun b hb => ⟨fun e => h1 (e ▸ hb), List.mem_cons_self, List.mem_cons_of_mem _ hb⟩) ((ih h2).imp fun ⟨a, b, c⟩ => ⟨a, List.mem_cons_of_mem _ b, List.mem_cons_of_mem _ c⟩)
      exact h1 l hn
    refine this.imp fun ⟨ne, ha, hb⟩ e => ne ?_
    have e1 := idxI_get (hp.mem_iff.mpr ha)
    have e2 := idxI_get (hp.mem_iff.mpr hb)
    have e3 := Int.ofNat.inj e
    rw [e3, e2] at e1
    exact (Option.some.inj e1).symm
  · obtain ⟨y, hy, rfl⟩ := List.mem_map.mp hx
    have := idxI_lt (hp.mem_iff.mpr hy)
    rw [hp.length_eq] at this
    show (0 : Int) ≤ ((idxI (srt l) y : Nat) : Int) ∧ ((idxI (srt l) y : Nat) : Int) < ((likeI l).length : Nat)
    unfold likeI
    rw [List.length_map]
    omega
/-! ### sums -/
def sumI (a b : List Int) : List Int := a ++ b.map (· + (a.length : Int))
def skewI (a b : List Int) : List Int := a.map (· + (b.length : Int)) ++ b
theorem cut_at {x : List Int} {n : Int} : ∀ k, k ≤ x.length → (∀ i j, i < j → j < x.length → pG x i < pG x j) → ∃ c, c ≤ k ∧ (∀ i, i < c → pG x i < n) ∧ ∀ i, c ≤ i → i < k → n ≤ pG x i
  | 0, _, _ => ⟨0, Nat.le_refl _, fun i h => absurd h (Nat.not_lt_zero _), fun i _ h => absurd h (Nat.not_lt_zero _)⟩
  | k + 1, hk, up => by
    obtain ⟨c, h1, h2, h3⟩ := cut_at (n := n) k (by omega) up
    by_cases e : n ≤ pG x k
    · exact ⟨c, by omega, h2, fun i h h' => by
        by_cases z : i = k
        · rw [z]; exact e
        · exact h3 i h (by omega)⟩
    · refine ⟨k + 1, Nat.le_refl _, fun i hi => ?_, fun i h h' => absurd h (by omega)⟩
      by_cases z : i = k
      · rw [z]; omega
      · have := up i k (by omega) (by omega)
        omega
/-- no cut between what lies low and what lies high -/
def NoCut (up : Bool) (p : List Int) : Prop := ∀ c, 0 < c → c < p.length → ∃ i j, i < c ∧ c ≤ j ∧ j < p.length ∧ if up = true then pG p j < pG p i else pG p i < pG p j
theorem app_l {a b : List Int} {i : Nat} (h : i < a.length) : pG (a ++ b) i = pG a i := pG_of (by rw [List.getElem?_append_left h, pG_get h])
theorem app_r {a b : List Int} {i : Nat} (h : a.length ≤ i) (h2 : i < a.length + b.length) : pG (a ++ b) i = pG b (i - a.length) := pG_of (by rw [List.getElem?_append_right h, pG_get (by omega)])
/-- one part's placing, and the other's -/
theorem put_wn {up : Bool} {p a b : List Int} (ha : IsRow a) (hb : IsRow b) (hc : NoCut up p) (h : Wn p (if up = true then sumI a b else skewI a b)) (hp : 0 < p.length) : Wn p a ∨ Wn p b := by
  obtain ⟨x, hx, lx⟩ := wn_iff.mp h
  have hlen : (if up = true then sumI a b else skewI a b).length = a.length + b.length := by
    cases up
    · show (skewI a b).length = _
      unfold skewI; rw [List.length_append, List.length_map]
    · show (sumI a b).length = _
      unfold sumI; rw [List.length_append, List.length_map]
  have gl : ∀ v : Int, 0 ≤ v → v < a.length → atI0 (if up = true then sumI a b else skewI a b) v = atI0 a v + (if up = true then 0 else (b.length : Int)) := fun v h0 h1 => by
    unfold atI0
    cases up
    · show pG (skewI a b) _ = _
      unfold skewI
      rw [app_l (by rw [List.length_map]; omega), pG_map _ (by omega), if_neg (by decide)]
    · show pG (sumI a b) _ = _
      unfold sumI
      rw [app_l (by omega), if_pos rfl, Int.add_zero]
  have gr : ∀ v : Int, (a.length : Int) ≤ v → v < a.length + b.length → atI0 (if up = true then sumI a b else skewI a b) v = atI0 b (v - a.length) + (if up = true then (a.length : Int) else 0) := fun v h0 h1 => by
    unfold atI0
    have ev : (v - a.length).toNat = v.toNat - a.length := by omega
    cases up
    · show pG (skewI a b) _ = _
      unfold skewI
      rw [app_r (by rw [List.length_map]; omega) (by rw [List.length_map]; omega), List.length_map, if_neg (by decide), Int.add_zero, ev]
    · show pG (sumI a b) _ = _
      unfold sumI
      rw [app_r (by omega) (by rw [List.length_map]; omega), if_pos rfl, pG_map _ (by omega), ev]
  generalize hR : (if up = true then sumI a b else skewI a b) = r at hx hlen gl gr
  obtain ⟨c, h1, h2, h3⟩ := cut_at (x := x) (n := a.length) x.length (Nat.le_refl _) hx.up
  have bd := hx.bd
  rw [hlen] at bd
  by_cases c0 : c = 0
  · -- all in the other
    right
    refine wn_iff.mpr ⟨x.map (· - (a.length : Int)), ⟨by rw [List.length_map]; omega, fun i hi => ?_, fun i j hij hj => ?_, fun i j hij hj => ?_⟩, by rw [List.length_map]; exact lx⟩
    · rw [List.length_map] at hi
      rw [pG_map _ hi]
      have := h3 i (by omega) hi
      have := bd i hi
      omega
    · rw [List.length_map] at hj
      rw [pG_map _ (by omega), pG_map _ hj]
      have := hx.up i j hij hj
      omega
    · rw [List.length_map] at hj
      have i1 := h3 i (by omega) (by omega)
      have j1 := h3 j (by omega) hj
      have i2 := bd i (by omega)
      have j2 := bd j hj
      have d := hx.is i j hij hj
      rw [gr _ i1 (by omega), gr _ j1 (by omega)] at d
      rw [pG_map _ (by omega), pG_map _ hj]
      split at d
      · rename_i z; rw [if_pos z]; omega
      · rename_i z; rw [if_neg z]; omega
  · by_cases ck : c = x.length
    · left
      refine wn_iff.mpr ⟨x, ⟨hx.le, fun i hi => ?_, hx.up, fun i j hij hj => ?_⟩, lx⟩
      · have := h2 i (by omega)
        have := bd i hi
        omega
      · have i1 := h2 i (by omega)
        have j1 := h2 j (by omega)
        have i2 := bd i (by omega)
        have j2 := bd j hj
        have d := hx.is i j hij hj
        rw [gl _ i2.1 i1, gl _ j2.1 j1] at d
        split at d
        · rename_i z; rw [if_pos z]; omega
        · rename_i z; rw [if_neg z]; omega
    · exfalso
      obtain ⟨i, j, hi, hj1, hj2, hij⟩ := hc c (by omega) (by omega)
      have i1 := h2 i hi
      have j1 := h3 j hj1 (by omega)
      have i2 := bd i (by omega)
      have j2 := bd j (by omega)
      have d := hx.is i j (by omega) (by omega)
      rw [gl _ i2.1 i1, gr _ j1 (by omega)] at d
      have ra := pG_row ha (show (pG x i).toNat < a.length by omega)
      have rb := pG_row hb (show (pG x j - a.length).toNat < b.length by omega)
      unfold atI0 at d
      cases up
      · simp only [Bool.false_eq_true, if_false] at hij d
        rw [if_pos hij] at d
        omega
      · simp only [if_true] at hij d
        rw [if_neg (by omega)] at d
        omega
end Tr

namespace Tr
open PySem L2
/-! ### a row filled with rows -/
def tagF : Nat → List (List Int) → List (Nat × Nat)
  | _, [] => []
  | g, p :: ps => (List.range p.length).map (fun m => (g, m)) ++ tagF (g + 1) ps
def szI (row : List Int) (parts : List (List Int)) : List Nat := (List.range row.length).map fun i : Nat => (parts.getD (idxI row (i : Int)) []).length
def bsI (row : List Int) (parts : List (List Int)) (g : Nat) : Int := (((szI row parts).take (pG row g).toNat).sum : Nat)
def valI (row : List Int) (parts : List (List Int)) (t : Nat × Nat) : Int := bsI row parts t.1 + pG (parts.getD t.1 []) t.2
def fillI (row : List Int) (parts : List (List Int)) : List Int := (tagF 0 parts).map (valI row parts)
theorem tag_bd : ∀ (ps : List (List Int)) (g : Nat) (t : Nat × Nat), t ∈ tagF g ps → g ≤ t.1 ∧ t.1 < g + ps.length ∧ t.2 < (ps.getD (t.1 - g) []).length
  | [], g, t, h => nomatch h
  | p :: ps, g, t, h => by
    rw [tagF] at h
    rcases List.mem_append.mp h with h | h
    · obtain ⟨m, hm, rfl⟩ := List.mem_map.mp h
      rw [List.length_cons]
      refine ⟨Nat.le_refl _, by show g < _; omega, ?_⟩
      show m < ((p :: ps).getD (g - g) []).length
      rw [Nat.sub_self]
      exact List.mem_range.mp hm
    · obtain ⟨h1, h2, h3⟩ := tag_bd ps (g + 1) t h
      rw [List.length_cons]
      refine ⟨by omega, by omega, ?_⟩
      rw [show t.1 - g = (t.1 - (g + 1)) + 1 by omega]
      exact h3
def tLt (s t : Nat × Nat) : Prop := s.1 < t.1 ∨ (s.1 = t.1 ∧ s.2 < t.2)
theorem tag_up : ∀ (ps : List (List Int)) (g : Nat), (tagF g ps).Pairwise tLt
  | [], g => .nil
  | p :: ps, g => by
    rw [tagF, List.pairwise_append]
    refine ⟨?_, tag_up ps (g + 1), fun a ha b hb => ?_⟩
    · rw [List.pairwise_map]
      exact List.pairwise_lt_range.imp fun h => .inr ⟨rfl, h⟩
    · obtain ⟨m, hm, rfl⟩ := List.mem_map.mp ha
      have := (tag_bd ps (g + 1) b hb).1
      exact .inl (by show g < b.1; omega)
theorem take_mono : ∀ (l : List Nat) (a b : Nat), a ≤ b → (l.take a).sum ≤ (l.take b).sum
  | [], a, b, _ => by rw [List.take_nil, List.take_nil]; exact Nat.le_refl _
  | x :: l, 0, b, _ => by rw [List.take_zero]; exact Nat.zero_le _
  | x :: l, a + 1, 0, h => absurd h (by omega)
  | x :: l, a + 1, b + 1, h => by
    rw [List.take_succ_cons, List.take_succ_cons, List.sum_cons, List.sum_cons]
    have := take_mono l a b (by omega)
    omega
theorem idx_row {row : List Int} (hr : IsRow row) {g : Nat} (hg : g < row.length) : idxI row (pG row g) = g := by
  have hm : pG row g ∈ row := List.mem_of_getElem? (pG_get hg)
  exact nodup_get hr.nodup (idxI_get hm) (pG_get hg)
theorem bs_step {row : List Int} {parts : List (List Int)} (hr : IsRow row) {g h : Nat} (hg : g < row.length) (hh : h < row.length) (hlt : pG row g < pG row h) : bsI row parts g + ((parts.getD g []).length : Nat) ≤ bsI row parts h := by
  have b1 := pG_row hr hg
  have b2 := pG_row hr hh
  have e : (szI row parts).take ((pG row g).toNat + 1) = (szI row parts).take (pG row g).toNat ++ [(parts.getD g []).length] := by
    rw [List.take_add_one]
    congr 1
    unfold szI
    rw [List.getElem?_map, List.getElem?_range (by omega)]
    show [(parts.getD (idxI row (((pG row g).toNat : Nat) : Int)) []).length] = _
    rw [show (((pG row g).toNat : Nat) : Int) = pG row g by omega, idx_row hr hg]
  have m := take_mono (szI row parts) ((pG row g).toNat + 1) (pG row h).toNat (by omega)
  rw [e, List.sum_append, List.sum_cons, List.sum_nil] at m
  unfold bsI
  omega
theorem cut_le (G : Nat → Int) (n : Int) : ∀ k, (∀ i j, i < j → j < k → G i ≤ G j) → ∃ c, c ≤ k ∧ (∀ i, i < c → G i < n) ∧ ∀ i, c ≤ i → i < k → n ≤ G i
  | 0, _ => ⟨0, Nat.le_refl _, fun i h => absurd h (Nat.not_lt_zero _), fun i _ h => absurd h (Nat.not_lt_zero _)⟩
  | k + 1, up => by
    obtain ⟨c, h1, h2, h3⟩ := cut_le G n k fun i j a b => up i j a (by omega)
    by_cases e : n ≤ G k
    · exact ⟨c, by omega, h2, fun i h h' => by
        by_cases z : i = k
        · rw [z]; exact e
        · exact h3 i h (by omega)⟩
    · refine ⟨k + 1, Nat.le_refl _, fun i hi => ?_, fun i h h' => absurd h (by omega)⟩
      by_cases z : i = k
      · rw [z]; omega
      · have := up i k (by omega) (by omega)
        omega
/-- no run of places, not one and not all, that the other values keep apart from -/
def NoBlk (p : List Int) : Prop := ∀ lo hi, lo + 2 ≤ hi → hi ≤ p.length → hi - lo < p.length → ∃ c s t, c < p.length ∧ (c < lo ∨ hi ≤ c) ∧ lo ≤ s ∧ s < hi ∧ lo ≤ t ∧ t < hi ∧ pG p c < pG p s ∧ ¬ pG p c < pG p t
theorem fill_wn {row p : List Int} {parts : List (List Int)} (hr : IsRow row) (hl : parts.length = row.length) (hps : ∀ q ∈ parts, IsRow q) (hp : IsRow p) (hb : NoBlk p) (h : Wn p (fillI row parts)) : Wn p row ∨ ∃ q ∈ parts, Wn p q := by
  obtain ⟨x, hx, lx⟩ := wn_iff.mp h
  have fl : (fillI row parts).length = (tagF 0 parts).length := by unfold fillI; rw [List.length_map]
  -- the tag at a place
  have tg : ∀ i, i < p.length → ∃ t : Nat × Nat, (tagF 0 parts)[(pG x i).toNat]? = some t ∧ atI0 (fillI row parts) (pG x i) = valI row parts t := fun i hi => by
    have b := hx.bd i (by omega)
    have hlt : (pG x i).toNat < (tagF 0 parts).length := by omega
    refine ⟨(tagF 0 parts)[(pG x i).toNat], List.getElem?_eq_getElem hlt, ?_⟩
    unfold atI0 fillI
    refine pG_of ?_
    rw [List.getElem?_map, List.getElem?_eq_getElem hlt]
    rfl
  let T : Nat → Nat × Nat := fun i => ((tagF 0 parts)[(pG x i).toNat]?).getD (0, 0)
  have hT : ∀ i, i < p.length → (tagF 0 parts)[(pG x i).toNat]? = some (T i) ∧ atI0 (fillI row parts) (pG x i) = valI row parts (T i) := fun i hi => by
    obtain ⟨t, h1, h2⟩ := tg i hi
    have : T i = t := by show ((tagF 0 parts)[(pG x i).toNat]?).getD (0, 0) = t; rw [h1]; rfl
    rw [this]
    exact ⟨h1, h2⟩
  generalize T = T at hT
  have bdT : ∀ i, i < p.length → (T i).1 < row.length ∧ (T i).2 < (parts.getD (T i).1 []).length := fun i hi => by
    have := tag_bd parts 0 (T i) (List.mem_of_getElem? (hT i hi).1)
    rw [Nat.sub_zero] at this
    exact ⟨by omega, this.2.2⟩
  have upT : ∀ i j, i < j → j < p.length → tLt (T i) (T j) := fun i j hij hj => by
    have h1 := (hT i (by omega)).1
    have h2 := (hT j hj).1
    obtain ⟨a, ea⟩ := List.getElem?_eq_some_iff.mp h1
    obtain ⟨b, eb⟩ := List.getElem?_eq_some_iff.mp h2
    have u := hx.up i j hij (by omega)
    have c := hx.bd i (by omega)
    have := List.pairwise_iff_getElem.mp (tag_up parts 0) _ _ a b (by omega)
    rwa [ea, eb] at this
  have prow : ∀ g, g < row.length → IsRow (parts.getD g []) := fun g hg => by
    refine hps _ ?_
    rw [List.getD_eq_getElem?_getD, List.getElem?_eq_getElem (by omega)]
    exact List.getElem_mem _
  have vb : ∀ i, i < p.length → 0 ≤ pG (parts.getD (T i).1 []) (T i).2 ∧ pG (parts.getD (T i).1 []) (T i).2 < (parts.getD (T i).1 []).length := fun i hi => pG_row (prow _ (bdT i hi).1) (bdT i hi).2
  have isV : ∀ i j, i < j → j < p.length → if pG p i < pG p j then valI row parts (T i) < valI row parts (T j) else valI row parts (T j) < valI row parts (T i) := fun i j hij hj => by
    have d := hx.is i j hij (by omega)
    rw [(hT i (by omega)).2, (hT j hj).2] at d
    exact d
  have ord : ∀ i j, i < p.length → j < p.length → i ≠ j → (pG p i < pG p j ↔ valI row parts (T i) < valI row parts (T j)) := fun i j hi hj ne => by
    have nd : pG p i ≠ pG p j := fun e => ne (pG_nodup hp.nodup hi hj e)
    by_cases c : i < j
    · have d := isV i j c hj
      split at d
      · constructor <;> intro _ <;> assumption
      · constructor <;> intro _ <;> omega
    · have d := isV j i (by omega) hi
      split at d
      · constructor <;> intro _ <;> omega
      · constructor <;> intro _ <;> omega
  -- values in two groups stand like the row's items
  have grp : ∀ i j, i < p.length → j < p.length → (T i).1 ≠ (T j).1 → (valI row parts (T i) < valI row parts (T j) ↔ pG row (T i).1 < pG row (T j).1) := fun i j hi hj ne => by
    have nd : pG row (T i).1 ≠ pG row (T j).1 := fun e => ne (pG_nodup hr.nodup (bdT i hi).1 (bdT j hj).1 e)
    have v1 := vb i hi
    have v2 := vb j hj
    unfold valI
    by_cases c : pG row (T i).1 < pG row (T j).1
    · have := bs_step (parts := parts) hr (bdT i hi).1 (bdT j hj).1 c
      constructor
      · intro _; exact c
      · intro _; omega
    · have := bs_step (parts := parts) hr (bdT j hj).1 (bdT i hi).1 (by omega)
      constructor
      · intro _; omega
      · intro z; exact absurd z c
  by_cases cA : ∀ i, i < p.length → (T i).1 = (T 0).1
  · by_cases c0 : p.length = 0
    · left
      refine wn_iff.mpr ⟨[], Pl.nil _ _, by rw [c0]; rfl⟩
    right
    have g0 := bdT 0 (by omega)
    refine ⟨parts.getD (T 0).1 [], ?_, wn_iff.mpr ⟨(List.range p.length).map fun i => (((T i).2 : Nat) : Int), ⟨by rw [List.length_map, List.length_range]; exact Nat.le_refl _, fun i hi => ?_, fun i j hij hj => ?_, fun i j hij hj => ?_⟩, by rw [List.length_map, List.length_range]⟩⟩
    · rw [List.getD_eq_getElem?_getD, List.getElem?_eq_getElem (by omega)]
      exact List.getElem_mem _
    all_goals
      have gm : ∀ i, i < p.length → pG ((List.range p.length).map fun i => (((T i).2 : Nat) : Int)) i = ((T i).2 : Nat) := fun i hi => pG_of (by rw [List.getElem?_map, List.getElem?_range hi]; rfl)
    · rw [List.length_map, List.length_range] at hi
      rw [gm i hi]
      have := (bdT i hi).2
      rw [cA i hi] at this
      omega
    · rw [List.length_map, List.length_range] at hj
      rw [gm i (by omega), gm j hj]
      have := upT i j hij hj
      have e1 := cA i (by omega)
      have e2 := cA j hj
      rcases this with z | ⟨_, z⟩ <;> omega
    · rw [List.length_map, List.length_range] at hj
      rw [gm i (by omega), gm j hj]
      have d := isV i j hij hj
      unfold valI at d
      rw [cA i (by omega), cA j hj] at d
      unfold atI0
      rw [Int.toNat_natCast, Int.toNat_natCast]
      split at d
      · rename_i z; rw [if_pos z]; omega
      · rename_i z; rw [if_neg z]; omega
  · by_cases cB : ∀ i, i + 1 < p.length → (T i).1 ≠ (T (i + 1)).1
    · left
      have upG : ∀ i j, i < j → j < p.length → (T i).1 < (T j).1 := fun i j hij => by
        induction j with
        | zero => exact absurd hij (Nat.not_lt_zero _)
        | succ j ih =>
          intro hj
          have s : (T j).1 < (T (j + 1)).1 := by
            rcases upT j (j + 1) (Nat.lt_succ_self _) hj with z | ⟨z, _⟩
            · exact z
            · exact absurd z (cB j hj)
          by_cases e : i = j
          · rw [e]; exact s
          · have := ih (by omega) (by omega)
            omega
      have gm : ∀ i, i < p.length → pG ((List.range p.length).map fun i => (((T i).1 : Nat) : Int)) i = ((T i).1 : Nat) := fun i hi => pG_of (by rw [List.getElem?_map, List.getElem?_range hi]; rfl)
      refine wn_iff.mpr ⟨(List.range p.length).map fun i => (((T i).1 : Nat) : Int), ⟨by rw [List.length_map, List.length_range]; exact Nat.le_refl _, fun i hi => ?_, fun i j hij hj => ?_, fun i j hij hj => ?_⟩, by rw [List.length_map, List.length_range]⟩
      · rw [List.length_map, List.length_range] at hi
        rw [gm i hi]
        have := (bdT i hi).1
        omega
      · rw [List.length_map, List.length_range] at hj
        rw [gm i (by omega), gm j hj]
        have := upG i j hij hj
        omega
      · rw [List.length_map, List.length_range] at hj
        rw [gm i (by omega), gm j hj]
        have u := upG i j hij hj
        have d := isV i j hij hj
        unfold atI0
        rw [Int.toNat_natCast, Int.toNat_natCast]
        split at d
        · rename_i z; rw [if_pos z]; exact (grp i j (by omega) hj (by omega)).mp d
        · rename_i z; rw [if_neg z]; exact (grp j i hj (by omega) (by omega)).mp d
    · exfalso
      obtain ⟨i, hi⟩ := Classical.not_forall.mp cB
      obtain ⟨hi1, hi2⟩ := Classical.not_imp.mp hi
      have hi2 : (T i).1 = (T (i + 1)).1 := Classical.not_not.mp hi2
      obtain ⟨c, hc⟩ := Classical.not_forall.mp cA
      obtain ⟨hc1, hc2⟩ := Classical.not_imp.mp hc
      have mono : ∀ a b, a < b → b < p.length → (((T a).1 : Nat) : Int) ≤ (((T b).1 : Nat) : Int) := fun a b hab hb => by
        rcases upT a b hab hb with z | ⟨z, _⟩ <;> omega
      obtain ⟨lo, l1, l2, l3⟩ := cut_le (fun a => (((T a).1 : Nat) : Int)) ((T i).1 : Nat) p.length mono
      obtain ⟨hh, k1, k2, k3⟩ := cut_le (fun a => (((T a).1 : Nat) : Int)) (((T i).1 : Nat) + 1) p.length mono
      have lo_i : lo ≤ i := Nat.le_of_not_lt fun z => by have := l2 i z; omega
      have hi_i : i + 1 < hh := Nat.lt_of_not_le fun z => by have := k3 (i + 1) z hi1; omega
      have sme : ∀ s, lo ≤ s → s < hh → (T s).1 = (T i).1 := fun s h1 h2 => by
        have := l3 s h1 (by omega)
        have := k2 s h2
        omega
      have few : hh - lo < p.length := by
        refine Classical.byContradiction fun z => ?_
        have z0 := sme 0 (by omega) (by omega)
        have zc := sme c (by omega) (by omega)
        exact hc2 (zc.trans z0.symm)
      obtain ⟨d, s, t, d1, d2, s1, s2, t1, t2, e1, e2⟩ := hb lo hh (by omega) k1 few
      have dn : (T d).1 ≠ (T i).1 := fun z => by
        rcases d2 with d2 | d2
        · have := l2 d d2; omega
        · have := k3 d d2 d1; omega
      have gs := sme s s1 s2
      have gt := sme t t1 t2
      have o1 := (ord d s d1 (by omega) (by omega)).mp e1
      have o2 := (grp d s d1 (by omega) (by omega)).mp o1
      rw [gs] at o2
      refine e2 ((ord d t d1 (by omega) (by omega)).mpr ((grp d t d1 (by omega) (by omega)).mpr ?_))
      rw [gt]
      exact o2
end Tr

namespace Tr
open PySem L2
def maxL : List Int → Int
  | [] => 0
  | x :: r => r.foldl max x
def minL : List Int → Int
  | [] => 0
  | x :: r => r.foldl min x
def cutT (sk : Bool) (b : List Int) (c : Nat) : Bool := if sk = true then decide (maxL (b.drop c) < minL (b.take c)) else decide (maxL (b.take c) < minL (b.drop c))
def midI (b : List Int) (i j : Nat) : List Int := (b.take j).drop i
def blkT (b : List Int) (i j : Nat) : Bool := decide (j - i < b.length) && decide (maxL (midI b i j) - minL (midI b i j) = (j : Int) - i - 1)
def fnd (t : Nat → Bool) : Nat → Nat → Option Nat
  | 0, _ => none
  | n + 1, s => if t s = true then some s else fnd t n (s + 1)
def fndO {α : Type} (f : Nat → Option α) : Nat → Nat → Option (Nat × α)
  | 0, _ => none
  | n + 1, s => match f s with
    | some a => some (s, a)
    | none => fndO f n (s + 1)
def fndB {α : Type} (f : List Int → Option α) : Nat → List (List Int) → Option (Nat × α)
  | _, [] => none
  | k, b :: B => match f b with
    | some a => some (k, a)
    | none => fndB f (k + 1) B
def cutF (sk : Bool) (b : List Int) : Option Nat := fnd (cutT sk b) (b.length - 1) 1
def blkF (b : List Int) : Option (Nat × Nat) := fndO (fun i => fnd (blkT b i) (b.length - 1 - i) (i + 2)) b.length 0
def cutO (sk : Bool) (B : List (List Int)) : Option (Nat × Nat) := fndB (cutF sk) 0 B
def blkO (B : List (List Int)) : Option (Nat × (Nat × Nat)) := fndB blkF 0 B
def cutD' : Option (Nat × Nat) → D
  | some (k, c) => .tuple [.int (k : Nat), .int (c : Nat)]
  | none => .none
def blkD' : Option (Nat × (Nat × Nat)) → D
  | some (k, i, j) => .tuple [.int (k : Nat), .tuple [.int (i : Nat), .int (j : Nat)]]
  | none => .none
theorem fnd_none {t : Nat → Bool} : ∀ (n s : Nat), fnd t n s = none → ∀ m, s ≤ m → m < s + n → t m = false
  | 0, s, _, m, h1, h2 => absurd h2 (by omega)
  | n + 1, s, h, m, h1, h2 => by
    rw [fnd] at h
    split at h
    · cases h
    · rename_i c
      by_cases e : m = s
      · rw [e]; exact Bool.eq_false_iff.mpr c
      · exact fnd_none n (s + 1) h m (by omega) (by omega)
theorem fnd_some {t : Nat → Bool} : ∀ (n s a : Nat), fnd t n s = some a → s ≤ a ∧ a < s + n ∧ t a = true
  | 0, s, a, h => nomatch h
  | n + 1, s, a, h => by
    rw [fnd] at h
    split at h
    · rename_i c
      cases h
      exact ⟨Nat.le_refl _, by omega, c⟩
    · have := fnd_some n (s + 1) a h
      exact ⟨by omega, by omega, this.2.2⟩
theorem fndO_none {α : Type} {f : Nat → Option α} : ∀ (n s : Nat), fndO f n s = none → ∀ m, s ≤ m → m < s + n → f m = none
  | 0, s, _, m, h1, h2 => absurd h2 (by omega)
  | n + 1, s, h, m, h1, h2 => by
    rw [fndO] at h
    split at h
    · cases h
    · rename_i c
      by_cases e : m = s
      · rw [e]; exact c
      · exact fndO_none n (s + 1) h m (by omega) (by omega)
theorem fndO_some {α : Type} {f : Nat → Option α} : ∀ (n s a : Nat) (v : α), fndO f n s = some (a, v) → s ≤ a ∧ a < s + n ∧ f a = some v
  | 0, s, a, v, h => nomatch h
  | n + 1, s, a, v, h => by
    rw [fndO] at h
    split at h
    · rename_i c
      cases h
      exact ⟨Nat.le_refl _, by omega, c⟩
    · have := fndO_some n (s + 1) a v h
      exact ⟨by omega, by omega, this.2.2⟩
theorem fndB_none {α : Type} {f : List Int → Option α} : ∀ (B : List (List Int)) (k : Nat), fndB f k B = none → ∀ b ∈ B, f b = none
  | [], k, _, b, hb => nomatch hb
  | a :: B, k, h, b, hb => by
    rw [fndB] at h
    split at h
    · cases h
    · rename_i c
      rcases List.mem_cons.mp hb with rfl | hb
      · exact c
      · exact fndB_none B (k + 1) h b hb
theorem fndB_some {α : Type} {f : List Int → Option α} : ∀ (B : List (List Int)) (k a : Nat) (v : α), fndB f k B = some (a, v) → ∃ b, k ≤ a ∧ B[a - k]? = some b ∧ f b = some v
  | [], k, a, v, h => nomatch h
  | b :: B, k, a, v, h => by
    rw [fndB] at h
    split at h
    · rename_i c
      cases h
      exact ⟨b, Nat.le_refl _, by rw [Nat.sub_self]; rfl, c⟩
    · obtain ⟨d, h1, h2, h3⟩ := fndB_some B (k + 1) a v h
      refine ⟨d, by omega, ?_, h3⟩
      rw [show a - k = (a - (k + 1)) + 1 by omega]
      exact h2
/-! ### what is so of all rows of at most five -/
def sumTB (b : List Int) : Bool := (List.range b.length).all fun c => c == 0 || (decide (maxL (b.take c) = (c : Int) - 1) == cutT false b c)
def skTB (b : List Int) : Bool := (List.range b.length).all fun c => c == 0 || (decide (minL (b.take c) = (b.length : Int) - c) == cutT true b c)
def noCB (b : List Int) : Bool := (List.range b.length).all fun c => c == 0 || [false, true].all fun sk => cutT sk b c || (List.range c).any fun i => (List.range b.length).any fun j => decide (c ≤ j) && (if sk = true then decide (pG b i < pG b j) else decide (pG b j < pG b i))
def noBB (b : List Int) : Bool := (List.range b.length).all fun lo => (List.range (b.length + 1)).all fun hi => !decide (lo + 2 ≤ hi ∧ hi - lo < b.length) || blkT b lo hi ||
  (List.range b.length).any fun c => (decide (c < lo) || decide (hi ≤ c)) && (List.range b.length).any fun s => (List.range b.length).any fun t => decide (lo ≤ s) && decide (s < hi) && decide (lo ≤ t) && decide (t < hi) && decide (pG b c < pG b s) && !decide (pG b c < pG b t)
def likeC (l : List Int) : List Int := l.map fun x => ((l.filter fun y => decide (y < x)).length : Nat)
def putB (b : List Int) : Bool := (List.range b.length).all fun c => c == 0 || ((!cutT false b c || sumI (likeC (b.take c)) (likeC (b.drop c)) == b) && (!cutT true b c || skewI (likeC (b.take c)) (likeC (b.drop c)) == b))
def outI (b : List Int) (i j : Nat) : List Int := likeC (b.take (i + 1) ++ b.drop j)
def inI (b : List Int) (i j : Nat) : List Int := likeC (midI b i j)
def prtI (b : List Int) (i j : Nat) : List (List Int) := (List.range (outI b i j).length).map fun t => if t = i then inI b i j else [0]
def filB (b : List Int) : Bool := (List.range b.length).all fun i => (List.range (b.length + 1)).all fun j => !decide (i + 2 ≤ j) || !blkT b i j || fillI (outI b i j) (prtI b i j) == b
theorem fin_all : ∀ n, n < 6 → ∀ b ∈ rowsB n n, (sumTB b && skTB b && noCB b && noBB b && putB b && filB b) = true := by decide +kernel
end Tr

namespace Tr
open PySem L2
local macro_rules | `(tactic| array_get_dec) => `(tactic| ((conv => whnf); (repeat (first | ((with_reducible refine if_nT ?_); conv => whnf) | ((with_reducible refine if_T ?_); conv => whnf) | ((with_reducible refine if_nT2 ?_); conv => whnf) | ((with_reducible refine if_nF ?_); conv => whnf) | ((with_reducible refine if_yes ?_); conv => whnf) | ((with_reducible refine if_no ?_); conv => whnf) | ((with_reducible refine if_bT ?_); conv => whnf) | ((with_reducible refine if_bF ?_); conv => whnf) | (focus ((with_reducible refine if_dec ?_ ?_); rotate_left; (intro c; exact absurd (by first | (with_reducible rfl) | omega) c); intro _; conv => whnf)) | (focus ((with_reducible refine if_dec ?_ ?_); (intro c; exact absurd c (by omega)); intro _; conv => whnf)) | (focus ((with_reducible refine if_ndec ?_ ?_); rotate_left; (intro c; exact absurd c (by omega)); intro _; conv => whnf)) | (focus ((with_reducible refine if_ndec ?_ ?_); (intro c; exact absurd (by first | (with_reducible rfl) | omega) c); intro _; conv => whnf)) | (focus ((with_reducible refine if_eqi ?_ ?_); rotate_left; (intro c; exact absurd (by first | (with_reducible rfl) | omega) c); intro _; conv => whnf)) | (focus ((with_reducible refine if_eqi ?_ ?_); (intro c; exact absurd c (by omega)); intro _; conv => whnf)) | (focus ((with_reducible refine if_nei ?_ ?_); rotate_left; (intro c; exact absurd c (by omega)); intro _; conv => whnf)) | (focus ((with_reducible refine if_nei ?_ ?_); (intro c; exact absurd (by first | (with_reducible rfl) | omega) c); intro _; conv => whnf)) | (refine And.intro (by first | exact trivial | assumption | exact rfl | (with_reducible exact And.intro (by first | assumption | exact shp_int _ | exact shp_tI _ | exact shp_lI _) (by first | assumption | exact shp_int _ | exact shp_tnil | exact shp_nil | exact shp_tI _ | exact shp_lI _)) | (with_reducible exact RcOk.mk6 (by decide) (by decide) (by decide) (by omega) (by omega) (by omega) (by omega)) | decide | omega | (simp only [List.length_map, List.length_append, List.length_reverse, List.length_replicate, List.length_cons, List.length_nil, List.length_set, List.length_range]; omega)) ?_; conv => whnf) | simp only [List.set_cons_zero, List.set_cons_succ, List.length_cons, List.length_nil, List.length_map, List.cons_append, List.nil_append, List.replicate_succ, List.replicate_zero, Nat.reduceAdd, Nat.reduceSub]))))
/-- bars as they are drawn -/
structure BarsI (B : List (List Int)) : Prop where
  few : B.length ≤ 10
  row : ∀ b ∈ B, IsRow b ∧ 1 ≤ b.length ∧ b.length ≤ 5
  anti : ∀ b ∈ B, ∀ d ∈ B, Wn b d → b = d
theorem BarsI.fin {B : List (List Int)} (h : BarsI B) {b : List Int} (hb : b ∈ B) : (sumTB b && skTB b && noCB b && noBB b && putB b && filB b) = true := by
  obtain ⟨h1, h2, h3⟩ := h.row b hb
  exact fin_all b.length (by omega) b (row_rowsB h1)
theorem fndB_step {α : Type} {f : List Int → Option α} {B : List (List Int)} {i : Nat} {b : List Int} {r : Option (Nat × α)} (hb : B[i]? = some b) (h : r = fndB f i (B.drop i)) : (∀ a, f b = some a → r = some (i, a)) ∧ (f b = none → r = fndB f (i + 1) (B.drop (i + 1))) := by
  obtain ⟨hi, e⟩ := List.getElem?_eq_some_iff.mp hb
  rw [List.drop_eq_getElem_cons hi, e, fndB] at h
  exact ⟨fun a z => by rw [z] at h; exact h, fun z => by rw [z] at h; exact h⟩
theorem fnd_step {t : Nat → Bool} {n i s : Nat} {r : Option Nat} (hi : i < n) (h : r = fnd t (n - i) (s + i)) : (t (s + i) = true → r = some (s + i)) ∧ (t (s + i) = false → r = fnd t (n - (i + 1)) (s + (i + 1))) := by
  rw [show n - i = (n - (i + 1)) + 1 by omega, fnd] at h
  exact ⟨fun z => by rw [if_pos z] at h; exact h, fun z => by rw [if_neg (by rw [z]; decide)] at h; exact h⟩
theorem cons_of {l : List Int} (h : 0 < l.length) : ∃ x r, l = x :: r := by
  cases l with
  | nil => exact absurd h (by decide)
  | cons x r => exact ⟨x, r, rfl⟩
section
variable {Qd : R → Rn → Prop} {Qx : Xn → Prop} {B : List (List Int)}
theorem sum_bar_ok (hB : BarsI B) (h : ∀ ρ, Qd (.im (cutD' (cutO false B))) ρ) : fnW 4 w_sum_bar [.im (.tuple (B.map tupD))] Qd Qx := by
  refine fnW.mk ?_
  array_get_dec
  refine wLoop_inv _ (fun i ρ => cutO false B = fndB (cutF false) i (B.drop i) ∧ ∃ x1 x2 x3, ρ = [.im (.tuple (B.map tupD)), x1, x2, x3]) ⟨rfl, _, _, _, rfl⟩ (fun i d ρ N he ⟨hr, x1, x2, x3, e⟩ hN => ?_) fun ρ ⟨hr, x1, x2, x3, e⟩ => ?_
  · subst e
    obtain ⟨d, h1, rfl⟩ := enumD_get he
    rw [List.getElem?_map] at h1
    obtain ⟨b, h2, rfl⟩ := Option.map_eq_some_iff.mp h1
    have hb := List.mem_of_getElem? h2
    obtain ⟨b1, b2, b3⟩ := hB.row b hb
    have fin := hB.fin hb
    obtain ⟨st1, st2⟩ := fndB_step h2 hr
    rw [show tupD b = .tuple (b.map PyData.int) from rfl]
    array_get_dec
    refine wLoop_inv _ (fun m ρ => m ≤ b.length - 1 ∧ cutF false b = fnd (cutT false b) (b.length - 1 - m) (1 + m) ∧ ∃ x3, ρ = [.im (.tuple (B.map tupD)), .im (.int i), .im (.tuple (b.map PyData.int)), x3]) ⟨Nat.zero_le _, rfl, _, rfl⟩ (fun m d ρ M he ⟨hm, hc, x3, e⟩ hM => ?_) fun ρ ⟨hm, hc, x3, e⟩ => ?_
    · subst e
      obtain ⟨rfl, hm2⟩ := rangeD_get he
      have hm2 : m < b.length - 1 := by omega
      obtain ⟨c1, c2⟩ := fnd_step hm2 hc
      obtain ⟨x, r, exr⟩ := cons_of (l := b.take (1 + m)) (by rw [List.length_take]; omega)
      have o1 := ord1_ints x r
      have tst : decide (maxL (b.take (1 + m)) = ((1 + m : Nat) : Int) - 1) = cutT false b (1 + m) := by
        simp only [Bool.and_eq_true] at fin
        have := List.all_eq_true.mp fin.1.1.1.1.1 (1 + m) (List.mem_range.mpr (by omega))
        rw [Bool.or_eq_true, beq_iff_eq, beq_iff_eq] at this
        rcases this with z | z
        · omega
        · exact z
      rw [show (1 : Int) + (m : Int) = ((1 + m : Nat) : Int) by omega]
      generalize hcc : 1 + m = c at c1 c2 exr tst ⊢
      have hcm : c = 1 + m := hcc.symm
      array_get_dec
      rw [cutD_tk, ← List.map_take, exr]
      array_get_dec
      rw [PySem.W.maxD_ints]
      array_get_dec
      rw [exr] at tst
      refine if_eqi (fun z => ?_) fun z => ?_
      · rw [decide_eq_true (show maxL (x :: r) = (c : Int) - 1 from z)] at tst
        have h2 := h
        rw [st1 _ (c1 tst.symm)] at h2
        array_get_dec
        exact h2 _
      · rw [decide_eq_false (show ¬ maxL (x :: r) = (c : Int) - 1 from z)] at tst
        array_get_dec
        exact hM _ ⟨by omega, c2 tst.symm, _, rfl⟩
    · subst e
      rw [rangeD_len, show ((b.length : Int) - 1).toNat = b.length - 1 by omega, Nat.sub_self] at hc
      exact hN _ ⟨st2 hc, _, _, _, rfl⟩
  · subst e
    rw [enumD_len, List.length_map, List.drop_length] at hr
    have h2 := h
    rw [hr] at h2
    array_get_dec
    exact h2 _
end
end Tr

namespace Tr
open PySem L2
local macro_rules | `(tactic| array_get_dec) => `(tactic| ((conv => whnf); (repeat (first | ((with_reducible refine if_nT ?_); conv => whnf) | ((with_reducible refine if_T ?_); conv => whnf) | ((with_reducible refine if_nT2 ?_); conv => whnf) | ((with_reducible refine if_nF ?_); conv => whnf) | ((with_reducible refine if_yes ?_); conv => whnf) | ((with_reducible refine if_no ?_); conv => whnf) | ((with_reducible refine if_bT ?_); conv => whnf) | ((with_reducible refine if_bF ?_); conv => whnf) | (focus ((with_reducible refine if_dec ?_ ?_); rotate_left; (intro c; exact absurd (by first | (with_reducible rfl) | omega) c); intro _; conv => whnf)) | (focus ((with_reducible refine if_dec ?_ ?_); (intro c; exact absurd c (by omega)); intro _; conv => whnf)) | (focus ((with_reducible refine if_ndec ?_ ?_); rotate_left; (intro c; exact absurd c (by omega)); intro _; conv => whnf)) | (focus ((with_reducible refine if_ndec ?_ ?_); (intro c; exact absurd (by first | (with_reducible rfl) | omega) c); intro _; conv => whnf)) | (focus ((with_reducible refine if_eqi ?_ ?_); rotate_left; (intro c; exact absurd (by first | (with_reducible rfl) | omega) c); intro _; conv => whnf)) | (focus ((with_reducible refine if_eqi ?_ ?_); (intro c; exact absurd c (by omega)); intro _; conv => whnf)) | (focus ((with_reducible refine if_nei ?_ ?_); rotate_left; (intro c; exact absurd c (by omega)); intro _; conv => whnf)) | (focus ((with_reducible refine if_nei ?_ ?_); (intro c; exact absurd (by first | (with_reducible rfl) | omega) c); intro _; conv => whnf)) | (refine And.intro (by first | exact trivial | assumption | exact rfl | (with_reducible exact And.intro (by first | assumption | exact shp_int _ | exact shp_tI _ | exact shp_lI _) (by first | assumption | exact shp_int _ | exact shp_tnil | exact shp_nil | exact shp_tI _ | exact shp_lI _)) | (with_reducible exact RcOk.mk6 (by decide) (by decide) (by decide) (by omega) (by omega) (by omega) (by omega)) | decide | omega | (simp only [List.length_map, List.length_append, List.length_reverse, List.length_replicate, List.length_cons, List.length_nil, List.length_set, List.length_range]; omega)) ?_; conv => whnf) | simp only [List.set_cons_zero, List.set_cons_succ, List.length_cons, List.length_nil, List.length_map, List.cons_append, List.nil_append, List.replicate_succ, List.replicate_zero, Nat.reduceAdd, Nat.reduceSub]))))
section
variable {Qd : R → Rn → Prop} {Qx : Xn → Prop} {B : List (List Int)}
theorem skew_bar_ok (hB : BarsI B) (h : ∀ ρ, Qd (.im (cutD' (cutO true B))) ρ) : fnW 4 w_skew_bar [.im (.tuple (B.map tupD))] Qd Qx := by
  refine fnW.mk ?_
  array_get_dec
  refine wLoop_inv _ (fun i ρ => cutO true B = fndB (cutF true) i (B.drop i) ∧ ∃ x1 x2 x3, ρ = [.im (.tuple (B.map tupD)), x1, x2, x3]) ⟨rfl, _, _, _, rfl⟩ (fun i d ρ N he ⟨hr, x1, x2, x3, e⟩ hN => ?_) fun ρ ⟨hr, x1, x2, x3, e⟩ => ?_
  · subst e
    obtain ⟨d, h1, rfl⟩ := enumD_get he
    rw [List.getElem?_map] at h1
    obtain ⟨b, h2, rfl⟩ := Option.map_eq_some_iff.mp h1
    have hb := List.mem_of_getElem? h2
    obtain ⟨b1, b2, b3⟩ := hB.row b hb
    have fin := hB.fin hb
    obtain ⟨st1, st2⟩ := fndB_step h2 hr
    rw [show tupD b = .tuple (b.map PyData.int) from rfl]
    array_get_dec
    refine wLoop_inv _ (fun m ρ => m ≤ b.length - 1 ∧ cutF true b = fnd (cutT true b) (b.length - 1 - m) (1 + m) ∧ ∃ x3, ρ = [.im (.tuple (B.map tupD)), .im (.int i), .im (.tuple (b.map PyData.int)), x3]) ⟨Nat.zero_le _, rfl, _, rfl⟩ (fun m d ρ M he ⟨hm, hc, x3, e⟩ hM => ?_) fun ρ ⟨hm, hc, x3, e⟩ => ?_
    · subst e
      obtain ⟨rfl, hm2⟩ := rangeD_get he
      have hm2 : m < b.length - 1 := by omega
      obtain ⟨c1, c2⟩ := fnd_step hm2 hc
      obtain ⟨x, r, exr⟩ := cons_of (l := b.take (1 + m)) (by rw [List.length_take]; omega)
      have o1 := ord1_ints x r
      have tst : decide (minL (b.take (1 + m)) = (b.length : Int) - ((1 + m : Nat) : Int)) = cutT true b (1 + m) := by
        simp only [Bool.and_eq_true] at fin
        have := List.all_eq_true.mp fin.1.1.1.1.2 (1 + m) (List.mem_range.mpr (by omega))
        rw [Bool.or_eq_true, beq_iff_eq, beq_iff_eq] at this
        rcases this with z | z
        · omega
        · exact z
      rw [show (1 : Int) + (m : Int) = ((1 + m : Nat) : Int) by omega]
      generalize hcc : 1 + m = c at c1 c2 exr tst ⊢
      have hcm : c = 1 + m := hcc.symm
      array_get_dec
      rw [cutD_tk, ← List.map_take, exr]
      array_get_dec
      rw [PySem.W.minD_ints]
      array_get_dec
      rw [exr] at tst
      refine if_eqi (fun z => ?_) fun z => ?_
      · rw [decide_eq_true (show minL (x :: r) = (b.length : Int) - c from z)] at tst
        have h2 := h
        rw [st1 _ (c1 tst.symm)] at h2
        array_get_dec
        exact h2 _
      · rw [decide_eq_false (show ¬ minL (x :: r) = (b.length : Int) - c from z)] at tst
        array_get_dec
        exact hM _ ⟨by omega, c2 tst.symm, _, rfl⟩
    · subst e
      rw [rangeD_len, show ((b.length : Int) - 1).toNat = b.length - 1 by omega, Nat.sub_self] at hc
      exact hN _ ⟨st2 hc, _, _, _, rfl⟩
  · subst e
    rw [enumD_len, List.length_map, List.drop_length] at hr
    have h2 := h
    rw [hr] at h2
    array_get_dec
    exact h2 _
theorem own_cut_ok {sk : Bool} (hB : BarsI B) (h : ∀ ρ, Qd (.im (cutD' (cutO sk B))) ρ) : fnW 7 w_u_law_cut [.im (.tuple (B.map tupD)), .im (.bool sk)] Qd Qx := by
  refine fnW.mk ?_
  array_get_dec
  refine wLoop_inv _ (fun i ρ => cutO sk B = fndB (cutF sk) i (B.drop i) ∧ ∃ x1 x2 x3 x4 x5, ρ = [.im (.tuple (B.map tupD)), .im (.bool sk), x1, x2, x3, x4, x5]) ⟨rfl, _, _, _, _, _, rfl⟩ (fun i d ρ N he ⟨hr, x1, x2, x3, x4, x5, e⟩ hN => ?_) fun ρ ⟨hr, x1, x2, x3, x4, x5, e⟩ => ?_
  · subst e
    obtain ⟨d, h1, rfl⟩ := enumD_get he
    rw [List.getElem?_map] at h1
    obtain ⟨b, h2, rfl⟩ := Option.map_eq_some_iff.mp h1
    have hb := List.mem_of_getElem? h2
    obtain ⟨b1, b2, b3⟩ := hB.row b hb
    have fin := hB.fin hb
    obtain ⟨st1, st2⟩ := fndB_step h2 hr
    rw [show tupD b = .tuple (b.map PyData.int) from rfl]
    array_get_dec
    refine wLoop_inv _ (fun m ρ => m ≤ b.length - 1 ∧ cutF sk b = fnd (cutT sk b) (b.length - 1 - m) (1 + m) ∧ ∃ x3 x4 x5, ρ = [.im (.tuple (B.map tupD)), .im (.bool sk), .im (.int i), .im (.tuple (b.map PyData.int)), x3, x4, x5]) ⟨Nat.zero_le _, rfl, _, _, _, rfl⟩ (fun m d ρ M he ⟨hm, hc, x3, x4, x5, e⟩ hM => ?_) fun ρ ⟨hm, hc, x3, x4, x5, e⟩ => ?_
    · subst e
      obtain ⟨rfl, hm2⟩ := rangeD_get he
      have hm2 : m < b.length - 1 := by omega
      obtain ⟨c1, c2⟩ := fnd_step hm2 hc
      obtain ⟨x, r, exr⟩ := cons_of (l := b.take (1 + m)) (by rw [List.length_take]; omega)
      obtain ⟨y, q, eyq⟩ := cons_of (l := b.drop (1 + m)) (by rw [List.length_drop]; omega)
      have o1 := ord1_ints x r
      have o2 := ord1_ints y q
      rw [show (1 : Int) + (m : Int) = ((1 + m : Nat) : Int) by omega]
      have tst : cutT sk b (1 + m) = cutT sk b (1 + m) := rfl
      conv at tst => lhs; unfold cutT
      rw [exr, eyq] at tst
      generalize hcc : 1 + m = c at c1 c2 exr eyq tst ⊢
      have hcm : c = 1 + m := hcc.symm
      cases sk with
      | true =>
        rw [if_pos rfl] at tst
        array_get_dec
        rw [cutD_tk, cutD_dr, ← List.map_take, ← List.map_drop, exr, eyq]
        array_get_dec
        rw [PySem.W.maxD_ints]
        array_get_dec
        rw [PySem.W.minD_ints]
        array_get_dec
        refine if_dec (fun z => ?_) fun z => ?_
        · rw [decide_eq_true (show maxL (y :: q) < minL (x :: r) from z)] at tst
          have h2 := h
          rw [st1 _ (c1 tst.symm)] at h2
          array_get_dec
          exact h2 _
        · rw [decide_eq_false (show ¬ maxL (y :: q) < minL (x :: r) from z)] at tst
          array_get_dec
          exact hM _ ⟨by omega, c2 tst.symm, _, _, _, rfl⟩
      | false =>
        rw [if_neg (by decide)] at tst
        array_get_dec
        rw [cutD_tk, cutD_dr, ← List.map_take, ← List.map_drop, exr, eyq]
        array_get_dec
        rw [PySem.W.maxD_ints]
        array_get_dec
        rw [PySem.W.minD_ints]
        array_get_dec
        refine if_dec (fun z => ?_) fun z => ?_
        · rw [decide_eq_true (show maxL (x :: r) < minL (y :: q) from z)] at tst
          have h2 := h
          rw [st1 _ (c1 tst.symm)] at h2
          array_get_dec
          exact h2 _
        · rw [decide_eq_false (show ¬ maxL (x :: r) < minL (y :: q) from z)] at tst
          array_get_dec
          exact hM _ ⟨by omega, c2 tst.symm, _, _, _, rfl⟩
    · subst e
      rw [rangeD_len, show ((b.length : Int) - 1).toNat = b.length - 1 by omega, Nat.sub_self] at hc
      exact hN _ ⟨st2 hc, _, _, _, _, _, rfl⟩
  · subst e
    rw [enumD_len, List.length_map, List.drop_length] at hr
    have h2 := h
    rw [hr] at h2
    array_get_dec
    exact h2 _
end
end Tr

namespace Tr
open PySem L2
local macro_rules | `(tactic| array_get_dec) => `(tactic| ((conv => whnf); (repeat (first | ((with_reducible refine if_nT ?_); conv => whnf) | ((with_reducible refine if_T ?_); conv => whnf) | ((with_reducible refine if_nT2 ?_); conv => whnf) | ((with_reducible refine if_nF ?_); conv => whnf) | ((with_reducible refine if_yes ?_); conv => whnf) | ((with_reducible refine if_no ?_); conv => whnf) | ((with_reducible refine if_bT ?_); conv => whnf) | ((with_reducible refine if_bF ?_); conv => whnf) | (focus ((with_reducible refine if_dec ?_ ?_); rotate_left; (intro c; exact absurd (by first | (with_reducible rfl) | omega) c); intro _; conv => whnf)) | (focus ((with_reducible refine if_dec ?_ ?_); (intro c; exact absurd c (by omega)); intro _; conv => whnf)) | (focus ((with_reducible refine if_ndec ?_ ?_); rotate_left; (intro c; exact absurd c (by omega)); intro _; conv => whnf)) | (focus ((with_reducible refine if_ndec ?_ ?_); (intro c; exact absurd (by first | (with_reducible rfl) | omega) c); intro _; conv => whnf)) | (focus ((with_reducible refine if_eqi ?_ ?_); rotate_left; (intro c; exact absurd (by first | (with_reducible rfl) | omega) c); intro _; conv => whnf)) | (focus ((with_reducible refine if_eqi ?_ ?_); (intro c; exact absurd c (by omega)); intro _; conv => whnf)) | (focus ((with_reducible refine if_nei ?_ ?_); rotate_left; (intro c; exact absurd c (by omega)); intro _; conv => whnf)) | (focus ((with_reducible refine if_nei ?_ ?_); (intro c; exact absurd (by first | (with_reducible rfl) | omega) c); intro _; conv => whnf)) | (refine And.intro (by first | exact trivial | assumption | exact rfl | (with_reducible exact And.intro (by first | assumption | exact shp_int _ | exact shp_tI _ | exact shp_lI _) (by first | assumption | exact shp_int _ | exact shp_tnil | exact shp_nil | exact shp_tI _ | exact shp_lI _)) | (with_reducible exact RcOk.mk6 (by decide) (by decide) (by decide) (by omega) (by omega) (by omega) (by omega)) | decide | omega | (simp only [List.length_map, List.length_append, List.length_reverse, List.length_replicate, List.length_cons, List.length_nil, List.length_set, List.length_range]; omega)) ?_; conv => whnf) | simp only [List.set_cons_zero, List.set_cons_succ, List.length_cons, List.length_nil, List.length_map, List.cons_append, List.nil_append, List.replicate_succ, List.replicate_zero, Nat.reduceAdd, Nat.reduceSub]))))
theorem fndO_step {α : Type} {f : Nat → Option α} {n m : Nat} {r : Option (Nat × α)} (hm : m < n) (h : r = fndO f (n - m) m) : (∀ a, f m = some a → r = some (m, a)) ∧ (f m = none → r = fndO f (n - (m + 1)) (m + 1)) := by
  rw [show n - m = (n - (m + 1)) + 1 by omega, fndO] at h
  exact ⟨fun a z => by rw [z] at h; exact h, fun z => by rw [z] at h; exact h⟩
theorem blkO_some {B : List (List Int)} {v : Nat × (Nat × Nat)} (h : blkO B = some v) : blkO B = some v := h
section
variable {Qd : R → Rn → Prop} {Qx : Xn → Prop} {B : List (List Int)}
theorem u_law_block_ok (hB : BarsI B) (h : ∀ ρ, Qd (.im (blkD' (blkO B))) ρ) : fnW 5 w_u_law_block [.im (.tuple (B.map tupD))] Qd Qx := by
  refine fnW.mk ?_
  array_get_dec
  refine wLoop_inv _ (fun i ρ => blkO B = fndB blkF i (B.drop i) ∧ ∃ x1 x2 x3 x4, ρ = [.im (.tuple (B.map tupD)), x1, x2, x3, x4]) ⟨rfl, _, _, _, _, rfl⟩ (fun i d ρ N he ⟨hr, x1, x2, x3, x4, e⟩ hN => ?_) fun ρ ⟨hr, x1, x2, x3, x4, e⟩ => ?_
  · subst e
    obtain ⟨d, h1, rfl⟩ := enumD_get he
    rw [List.getElem?_map] at h1
    obtain ⟨b, h2, rfl⟩ := Option.map_eq_some_iff.mp h1
    have hb := List.mem_of_getElem? h2
    obtain ⟨b1, b2, b3⟩ := hB.row b hb
    obtain ⟨st1, st2⟩ := fndB_step h2 hr
    rw [show tupD b = .tuple (b.map PyData.int) from rfl]
    array_get_dec
    refine wLoop_inv _ (fun m ρ => m ≤ b.length ∧ blkF b = fndO (fun i => fnd (blkT b i) (b.length - 1 - i) (i + 2)) (b.length - m) m ∧ ∃ x3 x4, ρ = [.im (.tuple (B.map tupD)), .im (.int i), .im (.tuple (b.map PyData.int)), x3, x4]) ⟨Nat.zero_le _, rfl, _, _, rfl⟩ (fun m d ρ M he ⟨hm, hc, x3, x4, e⟩ hM => ?_) fun ρ ⟨hm, hc, x3, x4, e⟩ => ?_
    · subst e
      obtain ⟨rfl, hm2⟩ := rangeD_get0 he
      have hm2 : m < b.length := by omega
      obtain ⟨c1, c2⟩ := fndO_step hm2 hc
      array_get_dec
      refine wLoop_inv _ (fun t ρ => t ≤ b.length - 1 - m ∧ fnd (blkT b m) (b.length - 1 - m) (m + 2) = fnd (blkT b m) (b.length - 1 - m - t) (m + 2 + t) ∧ ∃ x4, ρ = [.im (.tuple (B.map tupD)), .im (.int i), .im (.tuple (b.map PyData.int)), .im (.int m), x4]) ⟨Nat.zero_le _, rfl, _, rfl⟩ (fun t d ρ L he ⟨ht, hd, x4, e⟩ hL => ?_) fun ρ ⟨ht, hd, x4, e⟩ => ?_
      · subst e
        obtain ⟨rfl, ht2⟩ := rangeD_get he
        have ht2 : t < b.length - 1 - m := by omega
        obtain ⟨d1, d2⟩ := fnd_step ht2 hd
        rw [show (m : Int) + 2 + (t : Int) = ((m + 2 + t : Nat) : Int) by omega]
        obtain ⟨x, r, exr⟩ := cons_of (l := (b.take (m + 2 + t)).drop m) (by rw [List.length_drop, List.length_take]; omega)
        have o1 := ord1_ints x r
        have tst : blkT b m (m + 2 + t) = blkT b m (m + 2 + t) := rfl
        conv at tst => lhs; unfold blkT midI
        rw [exr] at tst
        have emid := cutD_mid (b.map PyData.int) m (m + 2 + t) (by omega) (by rw [List.length_map]; omega)
        rw [← List.map_take, ← List.map_drop, exr] at emid
        generalize hj : m + 2 + t = j at d1 d2 exr tst emid ⊢
        have hjm : j = m + 2 + t := hj.symm
        array_get_dec
        refine if_dec (fun z1 => ?_) fun z1 => ?_
        · rw [decide_eq_true (show j - m < b.length by omega), Bool.true_and] at tst
          array_get_dec
          rw [emid]
          array_get_dec
          rw [PySem.W.maxD_ints]
          array_get_dec
          rw [emid]
          array_get_dec
          rw [PySem.W.minD_ints]
          array_get_dec
          refine if_eqi (fun z => ?_) fun z => ?_
          · rw [decide_eq_true (show maxL (x :: r) - minL (x :: r) = (j : Int) - m - 1 from z)] at tst
            have h2 := h
            rw [blkO_some (st1 _ (c1 _ (d1 tst.symm)))] at h2
            array_get_dec
            exact h2 _
          · rw [decide_eq_false (show ¬ maxL (x :: r) - minL (x :: r) = (j : Int) - m - 1 from z)] at tst
            array_get_dec
            exact hL _ ⟨by omega, d2 tst.symm, _, rfl⟩
        · rw [decide_eq_false (show ¬ j - m < b.length by omega), Bool.false_and] at tst
          array_get_dec
          exact hL _ ⟨by omega, d2 tst.symm, _, rfl⟩
      · subst e
        rw [rangeD_len, show ((b.length : Int) + 1 - ((m : Int) + 2)).toNat = b.length - 1 - m by omega, Nat.sub_self] at hd
        exact hM _ ⟨by omega, c2 hd, _, _, rfl⟩
    · subst e
      rw [rangeD_len, show ((b.length : Int) - 0).toNat = b.length by omega, Nat.sub_self] at hc
      exact hN _ ⟨st2 hc, _, _, _, _, rfl⟩
  · subst e
    rw [enumD_len, List.length_map, List.drop_length] at hr
    have h2 := h
    rw [hr] at h2
    array_get_dec
    exact h2 _
theorem block_bar_ok (hB : BarsI B) (h : ∀ ρ, Qd (.im (blkD' (blkO B))) ρ) : fnW 6 w_block_bar [.im (.tuple (B.map tupD))] Qd Qx := by
  refine fnW.mk ?_
  array_get_dec
  refine wLoop_inv _ (fun i ρ => blkO B = fndB blkF i (B.drop i) ∧ ∃ x1 x2 x3 x4 x5, ρ = [.im (.tuple (B.map tupD)), x1, x2, x3, x4, x5]) ⟨rfl, _, _, _, _, _, rfl⟩ (fun i d ρ N he ⟨hr, x1, x2, x3, x4, x5, e⟩ hN => ?_) fun ρ ⟨hr, x1, x2, x3, x4, x5, e⟩ => ?_
  · subst e
    obtain ⟨d, h1, rfl⟩ := enumD_get he
    rw [List.getElem?_map] at h1
    obtain ⟨b, h2, rfl⟩ := Option.map_eq_some_iff.mp h1
    have hb := List.mem_of_getElem? h2
    obtain ⟨b1, b2, b3⟩ := hB.row b hb
    obtain ⟨st1, st2⟩ := fndB_step h2 hr
    rw [show tupD b = .tuple (b.map PyData.int) from rfl]
    array_get_dec
    refine wLoop_inv _ (fun m ρ => m ≤ b.length ∧ blkF b = fndO (fun i => fnd (blkT b i) (b.length - 1 - i) (i + 2)) (b.length - m) m ∧ ∃ x3 x4 x5, ρ = [.im (.tuple (B.map tupD)), .im (.int i), .im (.tuple (b.map PyData.int)), x3, x4, x5]) ⟨Nat.zero_le _, rfl, _, _, _, rfl⟩ (fun m d ρ M he ⟨hm, hc, x3, x4, x5, e⟩ hM => ?_) fun ρ ⟨hm, hc, x3, x4, x5, e⟩ => ?_
    · subst e
      obtain ⟨rfl, hm2⟩ := rangeD_get0 he
      have hm2 : m < b.length := by omega
      obtain ⟨c1, c2⟩ := fndO_step hm2 hc
      array_get_dec
      refine wLoop_inv _ (fun t ρ => t ≤ b.length - 1 - m ∧ fnd (blkT b m) (b.length - 1 - m) (m + 2) = fnd (blkT b m) (b.length - 1 - m - t) (m + 2 + t) ∧ ∃ x4 x5, ρ = [.im (.tuple (B.map tupD)), .im (.int i), .im (.tuple (b.map PyData.int)), .im (.int m), x4, x5]) ⟨Nat.zero_le _, rfl, _, _, rfl⟩ (fun t d ρ L he ⟨ht, hd, x4, x5, e⟩ hL => ?_) fun ρ ⟨ht, hd, x4, x5, e⟩ => ?_
      · subst e
        obtain ⟨rfl, ht2⟩ := rangeD_get he
        have ht2 : t < b.length - 1 - m := by omega
        obtain ⟨d1, d2⟩ := fnd_step ht2 hd
        rw [show (m : Int) + 2 + (t : Int) = ((m + 2 + t : Nat) : Int) by omega]
        obtain ⟨x, r, exr⟩ := cons_of (l := (b.take (m + 2 + t)).drop m) (by rw [List.length_drop, List.length_take]; omega)
        have o1 := ord1_ints x r
        have tst : blkT b m (m + 2 + t) = blkT b m (m + 2 + t) := rfl
        conv at tst => lhs; unfold blkT midI
        rw [exr] at tst
        have emid := cutD_mid (b.map PyData.int) m (m + 2 + t) (by omega) (by rw [List.length_map]; omega)
        rw [← List.map_take, ← List.map_drop, exr] at emid
        generalize hj : m + 2 + t = j at d1 d2 exr tst emid ⊢
        have hjm : j = m + 2 + t := hj.symm
        array_get_dec
        rw [emid]
        array_get_dec
        rw [PySem.W.maxD_ints]
        array_get_dec
        rw [PySem.W.minD_ints]
        array_get_dec
        refine if_eqi (fun z => ?_) fun z => ?_
        · rw [decide_eq_true (show maxL (x :: r) - minL (x :: r) = (j : Int) - m - 1 from z), Bool.and_true] at tst
          array_get_dec
          refine if_dec (fun z1 => ?_) fun z1 => ?_
          · rw [decide_eq_true (show j - m < b.length by omega)] at tst
            have h2 := h
            rw [blkO_some (st1 _ (c1 _ (d1 tst.symm)))] at h2
            array_get_dec
            exact h2 _
          · rw [decide_eq_false (show ¬ j - m < b.length by omega)] at tst
            array_get_dec
            exact hL _ ⟨by omega, d2 tst.symm, _, _, rfl⟩
        · rw [decide_eq_false (show ¬ maxL (x :: r) - minL (x :: r) = (j : Int) - m - 1 from z), Bool.and_false] at tst
          array_get_dec
          exact hL _ ⟨by omega, d2 tst.symm, _, _, rfl⟩
      · subst e
        rw [rangeD_len, show ((b.length : Int) + 1 - ((m : Int) + 2)).toNat = b.length - 1 - m by omega, Nat.sub_self] at hd
        exact hM _ ⟨by omega, c2 hd, _, _, _, rfl⟩
    · subst e
      rw [rangeD_len, show ((b.length : Int) - 0).toNat = b.length by omega, Nat.sub_self] at hc
      exact hN _ ⟨st2 hc, _, _, _, _, _, rfl⟩
  · subst e
    rw [enumD_len, List.length_map, List.drop_length] at hr
    have h2 := h
    rw [hr] at h2
    array_get_dec
    exact h2 _
end
end Tr

namespace Tr
open PySem L2
local macro_rules | `(tactic| array_get_dec) => `(tactic| ((conv => whnf); (repeat (first | ((with_reducible refine if_nT ?_); conv => whnf) | ((with_reducible refine if_T ?_); conv => whnf) | ((with_reducible refine if_nT2 ?_); conv => whnf) | ((with_reducible refine if_nF ?_); conv => whnf) | ((with_reducible refine if_yes ?_); conv => whnf) | ((with_reducible refine if_no ?_); conv => whnf) | ((with_reducible refine if_bT ?_); conv => whnf) | ((with_reducible refine if_bF ?_); conv => whnf) | (focus ((with_reducible refine if_dec ?_ ?_); rotate_left; (intro c; exact absurd (by first | (with_reducible rfl) | omega) c); intro _; conv => whnf)) | (focus ((with_reducible refine if_dec ?_ ?_); (intro c; exact absurd c (by omega)); intro _; conv => whnf)) | (focus ((with_reducible refine if_ndec ?_ ?_); rotate_left; (intro c; exact absurd c (by omega)); intro _; conv => whnf)) | (focus ((with_reducible refine if_ndec ?_ ?_); (intro c; exact absurd (by first | (with_reducible rfl) | omega) c); intro _; conv => whnf)) | (focus ((with_reducible refine if_eqi ?_ ?_); rotate_left; (intro c; exact absurd (by first | (with_reducible rfl) | omega) c); intro _; conv => whnf)) | (focus ((with_reducible refine if_eqi ?_ ?_); (intro c; exact absurd c (by omega)); intro _; conv => whnf)) | (focus ((with_reducible refine if_nei ?_ ?_); rotate_left; (intro c; exact absurd c (by omega)); intro _; conv => whnf)) | (focus ((with_reducible refine if_nei ?_ ?_); (intro c; exact absurd (by first | (with_reducible rfl) | omega) c); intro _; conv => whnf)) | (refine And.intro (by first | exact trivial | assumption | exact rfl | (with_reducible exact And.intro (by first | assumption | exact shp_int _ | exact shp_tI _ | exact shp_lI _) (by first | assumption | exact shp_int _ | exact shp_tnil | exact shp_nil | exact shp_tI _ | exact shp_lI _)) | (with_reducible exact RcOk.mk6 (by decide) (by decide) (by decide) (by omega) (by omega) (by omega) (by omega)) | decide | omega | (simp only [List.length_map, List.length_append, List.length_reverse, List.length_replicate, List.length_cons, List.length_nil, List.length_set, List.length_range]; omega)) ?_; conv => whnf) | simp only [List.set_cons_zero, List.set_cons_succ, List.length_cons, List.length_nil, List.length_map, List.cons_append, List.nil_append, List.replicate_succ, List.replicate_zero, Nat.reduceAdd, Nat.reduceSub]))))
local macro_rules | `(tactic| array_mem_dec) => `(tactic| ((conv => whnf); (repeat (first | ((with_reducible refine if_nT ?_); conv => whnf) | ((with_reducible refine if_T ?_); conv => whnf) | ((with_reducible refine if_nT2 ?_); conv => whnf) | ((with_reducible refine if_nF ?_); conv => whnf) | ((with_reducible refine if_yes ?_); conv => whnf) | ((with_reducible refine if_no ?_); conv => whnf) | ((with_reducible refine if_bT ?_); conv => whnf) | ((with_reducible refine if_bF ?_); conv => whnf) | (focus ((with_reducible refine if_dec ?_ ?_); rotate_left; (intro c; exact absurd (by first | (with_reducible rfl) | omega) c); intro _; conv => whnf)) | (focus ((with_reducible refine if_dec ?_ ?_); (intro c; exact absurd c (by omega)); intro _; conv => whnf)) | (focus ((with_reducible refine if_ndec ?_ ?_); rotate_left; (intro c; exact absurd c (by omega)); intro _; conv => whnf)) | (focus ((with_reducible refine if_ndec ?_ ?_); (intro c; exact absurd (by first | (with_reducible rfl) | omega) c); intro _; conv => whnf)) | (focus ((with_reducible refine if_eqi ?_ ?_); rotate_left; (intro c; exact absurd (by first | (with_reducible rfl) | omega) c); intro _; conv => whnf)) | (focus ((with_reducible refine if_eqi ?_ ?_); (intro c; exact absurd c (by omega)); intro _; conv => whnf)) | (focus ((with_reducible refine if_nei ?_ ?_); rotate_left; (intro c; exact absurd c (by omega)); intro _; conv => whnf)) | (focus ((with_reducible refine if_nei ?_ ?_); (intro c; exact absurd (by first | (with_reducible rfl) | omega) c); intro _; conv => whnf)) | (refine And.intro (by first | exact trivial | assumption | exact rfl | (with_reducible exact And.intro (by first | assumption | exact shp_int _ | exact shp_tI _ | exact shp_lI _) (by first | assumption | exact shp_int _ | exact shp_tnil | exact shp_nil | exact shp_tI _ | exact shp_lI _)) | (with_reducible exact RcOk.mk6 (by decide) (by decide) (by decide) (by omega) (by omega) (by omega) (by omega)) | decide | omega | (simp only [List.length_map, List.length_append, List.length_reverse, List.length_replicate, List.length_cons, List.length_nil, List.length_set, List.length_range]; omega)) ?_; conv => whnf) | simp only [List.set_cons_zero, List.set_cons_succ, List.length_cons, List.length_nil, List.length_map, List.cons_append, List.nil_append, List.replicate_succ, List.replicate_zero, Nat.reduceAdd, Nat.reduceSub, wipeR, resR, List.getElem?_cons_zero, List.getElem?_cons_succ]))))
theorem if_nnT {A B : Prop} (h : A) : IfW (!!true) A B := if_yes h
theorem if_nnF {A B : Prop} (h : B) : IfW (!!false) A B := if_no h
def inF (row : List Int) (d : D) : Option D := if plc row (unD d) = [] then none else some (.int 1)
theorem inF_all (row : List Int) : ∀ B : List (List Int), ((B.map tupD).filterMap (inF row)).isEmpty = decide (∀ b ∈ B, plc row b = [])
  | [] => by rw [decide_eq_true (fun b hb => nomatch hb)]; rfl
  | b :: B => by
    rw [List.map_cons, List.filterMap_cons]
    unfold inF
    rw [unD_tup]
    by_cases c : plc row b = []
    · rw [if_pos c]
      show ((B.map tupD).filterMap (inF row)).isEmpty = _
      rw [inF_all row B]
      refine decide_eq_decide.mpr ⟨fun h d hd => ?_, fun h d hd => h d (List.mem_cons_of_mem _ hd)⟩
      rcases List.mem_cons.mp hd with rfl | hd
      · exact c
      · exact h d hd
    · rw [if_neg c]
      rw [decide_eq_false fun h => c (h b List.mem_cons_self)]
      rfl
theorem tag_map (f : Nat × Nat → Int) : ∀ (ps : List (List Int)) (g : Nat), (tagF g ps).map f = (List.range ps.length).flatMap fun k => (List.range (ps.getD k []).length).map fun m => f (g + k, m)
  | [], g => rfl
  | p :: ps, g => by
    rw [tagF, List.map_append, tag_map f ps (g + 1), List.length_cons, List.range_succ_eq_map, List.flatMap_cons, List.map_map, List.flatMap_map]
    congr 1
    refine fm_congr fun k _ => ?_
    show (List.range (ps.getD k []).length).map _ = (List.range ((p :: ps).getD (k + 1) []).length).map _
    refine List.map_congr_left fun m _ => ?_
    rw [show g + 1 + k = g + (k + 1) by omega]
theorem inF_shp (row : List Int) (B : List (List Int)) : Shp (.list ((B.map tupD).filterMap (inF row))) := by
  have : ∃ l : List Int, (B.map tupD).filterMap (inF row) = l.map PyData.int := by
    induction B with
    | nil => exact ⟨[], rfl⟩
    | cons b B ih =>
      obtain ⟨l, e⟩ := ih
      rw [List.map_cons, List.filterMap_cons, e]
      unfold inF
      split
      · exact ⟨l, rfl⟩
      · rename_i v hv
        split at hv
        · cases hv
        · cases hv
          exact ⟨1 :: l, rfl⟩
  obtain ⟨l, e⟩ := this
  rw [e]
  exact shp_lI l
def preF (row : List Int) (parts : List (List Int)) (i : Nat) : List Int := (List.range i).flatMap fun k => (parts.getD k []).map fun own => bsI row parts k + own
theorem fill_pre (row : List Int) (parts : List (List Int)) : fillI row parts = preF row parts parts.length := by
  unfold fillI preF
  rw [tag_map]
  refine fm_congr fun k _ => ?_
  refine List.ext_getElem? fun m => ?_
  rw [List.getElem?_map, List.getElem?_map]
  by_cases h : m < (parts.getD k []).length
  · rw [List.getElem?_range h, pG_get h]
    show some (valI row parts (0 + k, m)) = some (bsI row parts k + pG (parts.getD k []) m)
    unfold valI
    rw [Nat.zero_add]
  · rw [List.getElem?_eq_none (by rw [List.length_range]; omega), List.getElem?_eq_none (by omega)]
    rfl
section
variable {Qd : R → Rn → Prop} {Qx : Xn → Prop} {B : List (List Int)} {row a b : List Int}
theorem barred_none_ok (hB : BarsI B) (hr : IsRow row) (hl : row.length ≤ 15) (hno : ∀ b ∈ B, ¬ Wn b row) (h : ∀ ρ, Qd (.im .none) ρ) : fnW 5 w_barred_by [.im (.tuple (B.map tupD)), .im (.tuple (row.map PyData.int))] Qd Qx := by
  refine fnW.mk ?_
  array_get_dec
  refine wLoop_inv _ (fun i ρ => ∃ x2 x3 x4, ρ = [.im (.tuple (B.map tupD)), .im (.tuple (row.map PyData.int)), x2, x3, x4]) ⟨_, _, _, rfl⟩ (fun i d ρ N he ⟨x2, x3, x4, e⟩ hN => ?_) fun ρ ⟨x2, x3, x4, e⟩ => ?_
  · subst e
    obtain ⟨d, h1, rfl⟩ := enumD_get he
    rw [List.getElem?_map] at h1
    obtain ⟨b, h2, rfl⟩ := Option.map_eq_some_iff.mp h1
    have hb := List.mem_of_getElem? h2
    have e0 : plc row b = [] := Classical.not_not.mp (hno b hb)
    have b3 := (hB.row b hb).2.2
    rw [show tupD b = .tuple (b.map PyData.int) from rfl]
    array_get_dec
    refine first_ok hr hl b3 fun ρ => ?_
    rw [e0]
    array_get_dec
    exact hN _ ⟨_, _, _, rfl⟩
  · subst e
    array_get_dec
    exact h _
theorem is_member_ok (hB : BarsI B) (hr : IsRow row) (hl : row.length ≤ 7) (h : ∀ ρ, Qd (.im (.bool (decide (∀ b ∈ B, plc row b = [])))) ρ) : fnW 3 w_u_law_is_member [.im (.tuple (B.map tupD)), .im (.tuple (row.map PyData.int))] Qd Qx := by
  have s0 : Shp (.list []) := shp_nil
  have few := hB.few
  refine fnW.mk ?_
  array_get_dec
  refine wCmp_fm _ (inF row) (by rw [List.length_map]; omega) (fun d N M hd hN hM => ?_) fun ρ' hw => ?_
  · obtain ⟨b, hb, rfl⟩ := List.mem_map.mp hd
    have b3 := (hB.row b hb).2.2
    unfold inF at hN hM
    rw [unD_tup] at hN hM
    rw [show tupD b = .tuple (b.map PyData.int) from rfl]
    array_get_dec
    refine is_in_ok hr hl b3 fun ρ => ?_
    by_cases c : plc row b = []
    · rw [if_pos c] at hM
      rw [decide_eq_true c]
      array_get_dec
      exact hM rfl _ rfl
    · rw [if_neg c] at hN
      rw [decide_eq_false c]
      array_get_dec
      exact hN _ rfl _ rfl
  · rw [hw]
    array_mem_dec
    refine ⟨⟨inF_shp row B, shp_nil⟩, ?_⟩
    rw [hid_eq, eqv_nil, inF_all]
    exact h _
theorem put_ok {sk : Bool} (ha : a.length ≤ 20) (hb : b.length ≤ 20) (h : ∀ ρ, Qd (.im (.tuple ((if sk = true then skewI a b else sumI a b).map PyData.int))) ρ) : fnW 4 w_u_law_put [.im (.tuple (a.map PyData.int)), .im (.tuple (b.map PyData.int)), .im (.bool sk)] Qd Qx := by
  cases sk with
  | true =>
    rw [if_pos rfl] at h
    refine fnW.mk ?_
    array_get_dec
    refine wCmp_ints _ (fun x => x + (b.length : Int)) (by omega) (fun x N M hx hN => ?_) fun ρ' hw => ?_
    · array_get_dec
      exact hN _ rfl
    · rw [hw]
      array_mem_dec
      rw [← List.map_append]
      exact h _
  | false =>
    rw [if_neg (by decide)] at h
    refine fnW.mk ?_
    array_get_dec
    refine wCmp_ints _ (fun x => x + (a.length : Int)) (by omega) (fun x N M hx hN => ?_) fun ρ' hw => ?_
    · array_get_dec
      exact hN _ rfl
    · rw [hw]
      array_mem_dec
      rw [← List.map_append]
      exact h _
theorem sum_nat : ∀ l : List Nat, ((l.map fun n : Nat => (n : Int)).sum) = ((l.sum : Nat) : Int)
  | [] => rfl
  | n :: l => by
    rw [List.map_cons, List.sum_cons, List.sum_cons, sum_nat l]
    omega
def addD (k : Int) : D → D
  | .int x => .int (k + x)
  | d => d
theorem filled_ok {parts : List (List Int)} (hr : IsRow row) (hl : row.length ≤ 5) (hp : parts.length = row.length) (hps : ∀ q ∈ parts, q.length ≤ 5) (h : ∀ ρ, Qd (.im (.tuple ((fillI row parts).map PyData.int))) ρ) : fnW 7 w_u_law_filled [.im (.tuple (row.map PyData.int)), .im (.list (parts.map tupD))] Qd Qx := by
  have s3 := shp_tI row
  have gp : ∀ k, k < parts.length → atI (parts.map tupD) (k : Int) = some (.tuple ((parts.getD k []).map PyData.int)) := fun k hk => by
    rw [atI_int (by omega) (show (parts.map tupD)[(k : Int).toNat]? = some (tupD (parts.getD k [])) by
      rw [Int.toNat_natCast, List.getElem?_map, List.getElem?_eq_getElem hk, List.getD_eq_getElem?_getD, List.getElem?_eq_getElem hk]; rfl)]
    rfl
  have lp : ∀ k, (parts.getD k []).length ≤ 5 := fun k => by
    rw [List.getD_eq_getElem?_getD]
    by_cases hk : k < parts.length
    · rw [List.getElem?_eq_getElem hk]
      exact hps _ (List.getElem_mem hk)
    · rw [List.getElem?_eq_none (by omega)]
      exact Nat.zero_le _
  have pl : ∀ i, i ≤ row.length → (preF row parts i).length ≤ 5 * i := fun i hi => by
    unfold preF
    induction i with
    | zero => exact Nat.le_refl _
    | succ i ih =>
      have := ih (by omega)
      rw [List.range_succ, List.flatMap_append, List.length_append, List.flatMap_cons, List.flatMap_nil, List.append_nil, List.length_map]
      have := lp i
      omega
  refine fnW.mk ?_
  array_get_dec
  rw [rangeD_zero]
  refine wCmp_ints _ (fun i => (((parts.getD (idxI row i) []).length : Nat) : Int)) (by rw [List.length_map, List.length_range]; omega) (fun x N M hx hN => ?_) fun ρ' hw => ?_
  · obtain ⟨i, hi, rfl⟩ := List.mem_map.mp hx
    have hi := List.mem_range.mp hi
    have hm : Int.ofNat i ∈ row := hr.mem.mpr ⟨by show (0 : Int) ≤ (i : Int); omega, by show (i : Int) < _; omega⟩
    have ef := firstAt_ints hm
    have hx2 := idxI_lt hm
    array_get_dec
    rw [ef]
    array_get_dec
    rw [gp _ (by omega)]
    array_get_dec
    exact hN _ rfl
  rw [hw, show ((List.range row.length).map Int.ofNat).map (fun i => (((parts.getD (idxI row i) []).length : Nat) : Int)) = (szI row parts).map fun n : Nat => (n : Int) by unfold szI; rw [List.map_map, List.map_map]; rfl]
  have lsz : (szI row parts).length = row.length := by unfold szI; rw [List.length_map, List.length_range]
  array_mem_dec
  refine wLoop_inv _ (fun i ρ => i ≤ row.length ∧ ∃ x2 x3 x5 x6, ρ = [.im (.tuple (row.map PyData.int)), .im (.list (parts.map tupD)), x2, x3, .own false (.l ((preF row parts i).map PyData.int)), x5, x6] ∧ (x2 = .own false (.l (((szI row parts).map fun n : Nat => (n : Int)).map PyData.int)) ∨ x2 = .im (.list (((szI row parts).map fun n : Nat => (n : Int)).map PyData.int)))) ⟨Nat.zero_le _, _, _, _, _, rfl, .inl rfl⟩ (fun i d ρ N he ⟨hi, x2, x3, x5, x6, e, hx⟩ hN => ?_) fun ρ ⟨hi, x2, x3, x5, x6, e, hx⟩ => ?_
  · subst e
    obtain ⟨d, h1, rfl⟩ := enumD_get he
    obtain ⟨x, h2, rfl⟩ := ints_get h1
    have hi2 := (List.getElem?_eq_some_iff.mp h2).1
    have ex : pG row i = x := pG_of h2
    have bx := pG_row hr hi2
    rw [ex] at bx
    have li := lp i
    have pli := pl i hi
    have gpi := gp i (by omega)
    obtain ⟨xn, rfl⟩ : ∃ n : Nat, x = (n : Int) := ⟨x.toNat, by omega⟩
    have es : bsI row parts i = (((szI row parts).take xn).map fun n : Nat => (n : Int)).sum := by
      unfold bsI
      rw [ex, sum_nat, Int.toNat_natCast]
    have step : preF row parts (i + 1) = preF row parts i ++ (parts.getD i []).map fun own => bsI row parts i + own := by
      unfold preF
      rw [List.range_succ, List.flatMap_append, List.flatMap_cons, List.flatMap_nil, List.append_nil]
    rw [step] at hN
    generalize hP : parts.getD i [] = p at *
    rcases hx with rfl | rfl
    all_goals
      array_get_dec
      rw [gpi]
      array_get_dec
      refine wCmp_ints _ (fun own => bsI row parts i + own) (by omega) (fun v N2 M2 hv hN2 => ?_) fun ρ' hw => ?_
      · array_get_dec
        rw [cutD_tk, ← List.map_take]
        array_get_dec
        rw [intsOf_ints]
        array_get_dec
        rw [← List.map_take, ← es]
        exact hN2 _ rfl
      · rw [hw]
        array_mem_dec
        refine hN _ ⟨by omega, _, _, _, _, by rw [List.map_append], by first | exact .inl rfl | exact .inr rfl⟩
  · subst e
    rw [enumD_len, List.length_map]
    have pli := pl row.length (Nat.le_refl _)
    rw [fill_pre, hp] at h
    rcases hx with rfl | rfl
    all_goals
      array_get_dec
      exact h _
end
end Tr

namespace Tr
open PySem L2
local macro_rules | `(tactic| array_get_dec) => `(tactic| ((conv => whnf); (repeat (first | ((with_reducible refine if_nT ?_); conv => whnf) | ((with_reducible refine if_T ?_); conv => whnf) | ((with_reducible refine if_nT2 ?_); conv => whnf) | ((with_reducible refine if_nF ?_); conv => whnf) | ((with_reducible refine if_yes ?_); conv => whnf) | ((with_reducible refine if_no ?_); conv => whnf) | ((with_reducible refine if_bT ?_); conv => whnf) | ((with_reducible refine if_bF ?_); conv => whnf) | (focus ((with_reducible refine if_dec ?_ ?_); rotate_left; (intro c; exact absurd (by first | (with_reducible rfl) | omega) c); intro _; conv => whnf)) | (focus ((with_reducible refine if_dec ?_ ?_); (intro c; exact absurd c (by omega)); intro _; conv => whnf)) | (focus ((with_reducible refine if_ndec ?_ ?_); rotate_left; (intro c; exact absurd c (by omega)); intro _; conv => whnf)) | (focus ((with_reducible refine if_ndec ?_ ?_); (intro c; exact absurd (by first | (with_reducible rfl) | omega) c); intro _; conv => whnf)) | (focus ((with_reducible refine if_eqi ?_ ?_); rotate_left; (intro c; exact absurd (by first | (with_reducible rfl) | omega) c); intro _; conv => whnf)) | (focus ((with_reducible refine if_eqi ?_ ?_); (intro c; exact absurd c (by omega)); intro _; conv => whnf)) | (focus ((with_reducible refine if_nei ?_ ?_); rotate_left; (intro c; exact absurd c (by omega)); intro _; conv => whnf)) | (focus ((with_reducible refine if_nei ?_ ?_); (intro c; exact absurd (by first | (with_reducible rfl) | omega) c); intro _; conv => whnf)) | (refine And.intro (by first | exact trivial | assumption | exact rfl | (with_reducible exact And.intro (by first | assumption | exact shp_int _ | exact shp_tI _ | exact shp_lI _) (by first | assumption | exact shp_int _ | exact shp_tnil | exact shp_nil | exact shp_tI _ | exact shp_lI _)) | (with_reducible exact RcOk.mk6 (by decide) (by decide) (by decide) (by omega) (by omega) (by omega) (by omega)) | decide | omega | (simp only [List.length_map, List.length_append, List.length_reverse, List.length_replicate, List.length_cons, List.length_nil, List.length_set, List.length_range]; omega)) ?_; conv => whnf) | simp only [List.set_cons_zero, List.set_cons_succ, List.length_cons, List.length_nil, List.length_map, List.cons_append, List.nil_append, List.replicate_succ, List.replicate_zero, Nat.reduceAdd, Nat.reduceSub]))))
local macro_rules | `(tactic| array_mem_dec) => `(tactic| ((conv => whnf); (repeat (first | ((with_reducible refine if_nT ?_); conv => whnf) | ((with_reducible refine if_T ?_); conv => whnf) | ((with_reducible refine if_nT2 ?_); conv => whnf) | ((with_reducible refine if_nF ?_); conv => whnf) | ((with_reducible refine if_yes ?_); conv => whnf) | ((with_reducible refine if_no ?_); conv => whnf) | ((with_reducible refine if_bT ?_); conv => whnf) | ((with_reducible refine if_bF ?_); conv => whnf) | (focus ((with_reducible refine if_dec ?_ ?_); rotate_left; (intro c; exact absurd (by first | (with_reducible rfl) | omega) c); intro _; conv => whnf)) | (focus ((with_reducible refine if_dec ?_ ?_); (intro c; exact absurd c (by omega)); intro _; conv => whnf)) | (focus ((with_reducible refine if_ndec ?_ ?_); rotate_left; (intro c; exact absurd c (by omega)); intro _; conv => whnf)) | (focus ((with_reducible refine if_ndec ?_ ?_); (intro c; exact absurd (by first | (with_reducible rfl) | omega) c); intro _; conv => whnf)) | (focus ((with_reducible refine if_eqi ?_ ?_); rotate_left; (intro c; exact absurd (by first | (with_reducible rfl) | omega) c); intro _; conv => whnf)) | (focus ((with_reducible refine if_eqi ?_ ?_); (intro c; exact absurd c (by omega)); intro _; conv => whnf)) | (focus ((with_reducible refine if_nei ?_ ?_); rotate_left; (intro c; exact absurd c (by omega)); intro _; conv => whnf)) | (focus ((with_reducible refine if_nei ?_ ?_); (intro c; exact absurd (by first | (with_reducible rfl) | omega) c); intro _; conv => whnf)) | (refine And.intro (by first | exact trivial | assumption | exact rfl | (with_reducible exact And.intro (by first | assumption | exact shp_int _ | exact shp_tI _ | exact shp_lI _) (by first | assumption | exact shp_int _ | exact shp_tnil | exact shp_nil | exact shp_tI _ | exact shp_lI _)) | (with_reducible exact RcOk.mk6 (by decide) (by decide) (by decide) (by omega) (by omega) (by omega) (by omega)) | decide | omega | (simp only [List.length_map, List.length_append, List.length_reverse, List.length_replicate, List.length_cons, List.length_nil, List.length_set, List.length_range]; omega)) ?_; conv => whnf) | simp only [List.set_cons_zero, List.set_cons_succ, List.length_cons, List.length_nil, List.length_map, List.cons_append, List.nil_append, List.replicate_succ, List.replicate_zero, Nat.reduceAdd, Nat.reduceSub, wipeR, resR, List.getElem?_cons_zero, List.getElem?_cons_succ]))))
theorem putD_mem {kvs : List (List Int × D)} {k : List Int} {d : D} {kv : List Int × D} (h : kv ∈ putD kvs k d) : kv ∈ kvs ∨ kv.1 = k := by
  unfold putD at h
  split at h
  · obtain ⟨a, ha, rfl⟩ := List.mem_map.mp h
    split
    · rename_i c
      right
      first | exact c | exact of_decide_eq_true c | rfl
    · exact .inl ha
  · rcases List.mem_append.mp h with h | h
    · exact .inl h
    · right
      rw [List.mem_singleton.mp h]
theorem putD_len (kvs : List (List Int × D)) (k : List Int) (d : D) : (putD kvs k d).length ≤ kvs.length + 1 := by
  unfold putD
  split
  · rw [List.length_map]; omega
  · rw [List.length_append]; exact Nat.le_refl _
theorem srtT_I (F : List (List Int)) : sortD (F.map tuI) = (srtT F).map tupD := srtT_D F
/-- what is told of the others that lie within a row -/
def othF (r : List Int) (d : D) : Option D := if unD d ≠ r ∧ plc r (unD d) ≠ [] then some (.int 1) else none
def selF (S : List (List Int)) (d : D) : Option D := if ((S.map tupD).filterMap (othF (unD d))).isEmpty = true then some d else none
theorem oth_shp (g : D → Option D) (hg : ∀ d, g d = none ∨ g d = some (.int 1)) (B : List D) : Shp (.list (B.filterMap g)) := by
  have : ∃ l : List Int, B.filterMap g = l.map PyData.int := by
    induction B with
    | nil => exact ⟨[], rfl⟩
    | cons b B ih =>
      obtain ⟨l, e⟩ := ih
      rw [List.filterMap_cons, e]
      rcases hg b with z | z
      · rw [z]; exact ⟨l, rfl⟩
      · rw [z]; exact ⟨1 :: l, rfl⟩
  obtain ⟨l, e⟩ := this
  rw [e]
  exact shp_lI l
theorem sel_fm (p : D → Bool) : ∀ S : List (List Int), (S.map tupD).filterMap (fun d => if p d = true then some d else none) = (S.filter fun r => p (tupD r)).map tupD
  | [] => rfl
  | r :: S => by
    rw [List.map_cons, List.filterMap_cons, List.filter_cons, sel_fm p S]
    cases p (tupD r) <;> rfl
theorem empty_fm {g : D → Option D} {S : List (List Int)} (h : ((S.map tupD).filterMap g).isEmpty = true) : ∀ r ∈ S, g (tupD r) = none := fun r hr => by
  have := List.isEmpty_iff.mp h
  exact List.filterMap_eq_nil_iff.mp this _ (List.mem_map.mpr ⟨r, hr, rfl⟩)
section
variable {Qd : R → Rn → Prop} {Qx : Xn → Prop} {B : List (List Int)} {row a b : List Int}
theorem bars_ok (h : ∀ (B : List (List Int)) ρ, BarsI B → Qd (.im (.tuple (B.map tupD))) ρ) : fnW 7 w_u_law_bars [.pot, .im (.int 5)] Qd Qx := by
  refine fnW.mk ?_
  array_get_dec
  refine pick_ok (Nat.le_of_ble_eq_true rfl) (Nat.le_of_ble_eq_true rfl) fun d hd ρ => ?_
  obtain ⟨n, rfl, n1, n2⟩ : ∃ n : Int, d = .int n ∧ 1 ≤ n ∧ n ≤ 4 := by
    simp only [List.mem_cons, List.not_mem_nil, or_false] at hd
    rcases hd with rfl | rfl | rfl | rfl
    all_goals exact ⟨_, rfl, by decide, by decide⟩
  array_get_dec
  refine of_ok (by omega) fun k hk ρ => ?_
  have hk2 : 0 ≤ k ∧ k < 4 := ⟨hk.1, by have := hk.2; omega⟩
  array_get_dec
  refine wLoop_inv _ (fun i ρ => ∃ (kvs : List (List Int × D)) (x3 : Sl), ρ = [.pot, .im (.int 5), .own false (.t kvs), x3, .no, .no, .no] ∧ kvs.length ≤ i ∧ ∀ kv ∈ kvs, IsRow kv.1 ∧ 1 ≤ kv.1.length ∧ kv.1.length ≤ 5) ⟨[], _, rfl, Nat.le_refl _, fun kv h => nomatch h⟩ (fun i d ρ N he ⟨kvs, x3, e, hl, hk⟩ hN => ?_) fun ρ ⟨kvs, x3, e, hl, hkv⟩ => ?_
  · subst e
    have hi := (List.getElem?_eq_some_iff.mp he).1
    rw [rangeD_len] at hi
    array_get_dec
    refine pick_ok (Nat.le_of_ble_eq_true rfl) (Nat.le_of_ble_eq_true rfl) fun d hd ρ => ?_
    obtain ⟨n, rfl, n1, n2⟩ : ∃ n : Int, d = .int n ∧ 1 ≤ n ∧ n ≤ 5 := by
      simp only [List.mem_cons, List.not_mem_nil, or_false] at hd
      rcases hd with rfl | rfl | rfl | rfl | rfl | rfl
      all_goals exact ⟨_, rfl, by decide, by decide⟩
    array_get_dec
    refine row_ok (by omega) (by omega) fun q ρ hq hql => ?_
    array_get_dec
    rw [show keyT (.tuple (q.map PyData.int)) = some q from keyT_tup q]
    array_get_dec
    have := putD_len kvs q (.bool true)
    refine hN _ ⟨putD kvs q (.bool true), _, rfl, by omega, fun kv hm => ?_⟩
    rcases putD_mem hm with z | z
    · exact hk kv z
    · rw [z]
      exact ⟨hq, by omega, by omega⟩
  · subst e
    rw [rangeD_len] at hl
    have side : (∀ kv ∈ kvs, 1 ≤ kv.1.length) ∨ kvs.length < 2 := .inl fun kv hm => (hkv kv hm).2.1
    array_get_dec
    rw [srtT_I]
    generalize hS : srtT (kvs.map (·.1)) = S
    have hSr : ∀ r ∈ S, IsRow r ∧ 1 ≤ r.length ∧ r.length ≤ 5 := fun r hr => by
      rw [← hS] at hr
      obtain ⟨kv, hm, rfl⟩ := List.mem_map.mp ((srtT_perm _).mem_iff.mp hr)
      exact hkv kv hm
    have hSl : S.length ≤ 4 := by
      rw [← hS, (srtT_perm _).length_eq, List.length_map]
      omega
    have hSm : (S.map tupD).length ≤ 4 := by rw [List.length_map]; exact hSl
    refine wCmp_fm _ (selF S) (by rw [List.length_map]; omega) (fun d N M hd hN hM => ?_) fun ρ' hw => ?_
    · obtain ⟨r, hr, rfl⟩ := List.mem_map.mp hd
      obtain ⟨r1, r2, r3⟩ := hSr r hr
      unfold selF at hN hM
      rw [show unD (tupD r) = r from unD_tup r] at hN hM
      rw [show tupD r = .tuple (r.map PyData.int) from rfl] at hN ⊢
      array_get_dec
      refine wCmp_fm _ (othF r) (by rw [List.length_map]; omega) (fun d N2 M2 hd hN2 hM2 => ?_) fun ρ' hw => ?_
      · obtain ⟨o, ho, rfl⟩ := List.mem_map.mp hd
        obtain ⟨o1, o2, o3⟩ := hSr o ho
        unfold othF at hN2 hM2
        rw [show unD (tupD o) = o from unD_tup o] at hN2 hM2
        rw [show tupD o = .tuple (o.map PyData.int) from rfl]
        array_get_dec
        rw [eqv_tI]
        refine if_ndec (fun c => ?_) fun c => ?_
        · array_get_dec
          refine is_in_ok r1 (by omega) (by omega) fun ρ => ?_
          by_cases c2 : plc r o = []
          · rw [if_neg fun z => z.2 c2] at hM2
            rw [decide_eq_true c2]
            array_get_dec
            exact hM2 rfl _ rfl
          · rw [if_pos ⟨c, c2⟩] at hN2
            rw [decide_eq_false c2]
            array_get_dec
            exact hN2 _ rfl _ rfl
        · rw [if_neg fun z => z.1 c] at hM2
          array_get_dec
          exact hM2 rfl _ rfl
      · rw [hw]
        array_mem_dec
        refine ⟨⟨oth_shp _ (fun d => by unfold othF; split <;> first | exact .inr rfl | exact .inl rfl) _, shp_nil⟩, ?_⟩
        rw [eqv_nil]
        refine if_hid (fun c => ?_) fun c => ?_
        · rw [if_pos c] at hN
          array_get_dec
          exact hN _ rfl _ rfl
        · rw [if_neg (by rw [c]; decide)] at hM
          array_get_dec
          exact hM rfl _ rfl
    · rw [hw, show selF S = fun d => if (fun d => ((S.map tupD).filterMap (othF (unD d))).isEmpty) d = true then some d else none from rfl, sel_fm]
      have hsub : ∀ b ∈ S.filter (fun r => ((S.map tupD).filterMap (othF (unD (tupD r)))).isEmpty), b ∈ S := fun b hb => (List.mem_filter.mp hb).1
      have hlen := List.length_filter_le (fun r => ((S.map tupD).filterMap (othF (unD (tupD r)))).isEmpty) S
      have hB : BarsI (S.filter fun r => ((S.map tupD).filterMap (othF (unD (tupD r)))).isEmpty) := by
        refine ⟨by omega, fun b hb => hSr b (hsub b hb), fun b hb d hd hw => ?_⟩
        have h1 := empty_fm (List.mem_filter.mp hd).2 b (hsub b hb)
        unfold othF at h1
        rw [unD_tup, unD_tup] at h1
        refine Classical.byContradiction fun ne => ?_
        rw [if_pos ⟨ne, hw⟩] at h1
        exact nomatch h1
      generalize S.filter (fun r => ((S.map tupD).filterMap (othF (unD (tupD r)))).isEmpty) = B at hB hlen
      have hBl : (B.map tupD).length ≤ 10 := by rw [List.length_map]; omega
      array_mem_dec
      exact h _ _ hB
end
end Tr

namespace Tr
open PySem L2
local macro_rules | `(tactic| array_get_dec) => `(tactic| ((conv => whnf); (repeat (first | ((with_reducible refine if_nT ?_); conv => whnf) | ((with_reducible refine if_T ?_); conv => whnf) | ((with_reducible refine if_nT2 ?_); conv => whnf) | ((with_reducible refine if_nF ?_); conv => whnf) | ((with_reducible refine if_yes ?_); conv => whnf) | ((with_reducible refine if_no ?_); conv => whnf) | ((with_reducible refine if_bT ?_); conv => whnf) | ((with_reducible refine if_bF ?_); conv => whnf) | (focus ((with_reducible refine if_dec ?_ ?_); rotate_left; (intro c; exact absurd (by first | (with_reducible rfl) | omega) c); intro _; conv => whnf)) | (focus ((with_reducible refine if_dec ?_ ?_); (intro c; exact absurd c (by omega)); intro _; conv => whnf)) | (focus ((with_reducible refine if_ndec ?_ ?_); rotate_left; (intro c; exact absurd c (by omega)); intro _; conv => whnf)) | (focus ((with_reducible refine if_ndec ?_ ?_); (intro c; exact absurd (by first | (with_reducible rfl) | omega) c); intro _; conv => whnf)) | (focus ((with_reducible refine if_eqi ?_ ?_); rotate_left; (intro c; exact absurd (by first | (with_reducible rfl) | omega) c); intro _; conv => whnf)) | (focus ((with_reducible refine if_eqi ?_ ?_); (intro c; exact absurd c (by omega)); intro _; conv => whnf)) | (focus ((with_reducible refine if_nei ?_ ?_); rotate_left; (intro c; exact absurd c (by omega)); intro _; conv => whnf)) | (focus ((with_reducible refine if_nei ?_ ?_); (intro c; exact absurd (by first | (with_reducible rfl) | omega) c); intro _; conv => whnf)) | (refine And.intro (by first | exact trivial | assumption | exact rfl | (with_reducible exact And.intro (by first | assumption | exact shp_int _ | exact shp_tI _ | exact shp_lI _) (by first | assumption | exact shp_int _ | exact shp_tnil | exact shp_nil | exact shp_tI _ | exact shp_lI _)) | (with_reducible exact RcOk.mk6 (by decide) (by decide) (by decide) (by omega) (by omega) (by omega) (by omega)) | decide | omega | (simp only [List.length_map, List.length_append, List.length_reverse, List.length_replicate, List.length_cons, List.length_nil, List.length_set, List.length_range]; omega)) ?_; conv => whnf) | simp only [List.set_cons_zero, List.set_cons_succ, List.length_cons, List.length_nil, List.length_map, List.cons_append, List.nil_append, List.replicate_succ, List.replicate_zero, Nat.reduceAdd, Nat.reduceSub]))))
local macro_rules | `(tactic| array_mem_dec) => `(tactic| ((conv => whnf); (repeat (first | ((with_reducible refine if_nT ?_); conv => whnf) | ((with_reducible refine if_T ?_); conv => whnf) | ((with_reducible refine if_nT2 ?_); conv => whnf) | ((with_reducible refine if_nF ?_); conv => whnf) | ((with_reducible refine if_yes ?_); conv => whnf) | ((with_reducible refine if_no ?_); conv => whnf) | ((with_reducible refine if_bT ?_); conv => whnf) | ((with_reducible refine if_bF ?_); conv => whnf) | (focus ((with_reducible refine if_dec ?_ ?_); rotate_left; (intro c; exact absurd (by first | (with_reducible rfl) | omega) c); intro _; conv => whnf)) | (focus ((with_reducible refine if_dec ?_ ?_); (intro c; exact absurd c (by omega)); intro _; conv => whnf)) | (focus ((with_reducible refine if_ndec ?_ ?_); rotate_left; (intro c; exact absurd c (by omega)); intro _; conv => whnf)) | (focus ((with_reducible refine if_ndec ?_ ?_); (intro c; exact absurd (by first | (with_reducible rfl) | omega) c); intro _; conv => whnf)) | (focus ((with_reducible refine if_eqi ?_ ?_); rotate_left; (intro c; exact absurd (by first | (with_reducible rfl) | omega) c); intro _; conv => whnf)) | (focus ((with_reducible refine if_eqi ?_ ?_); (intro c; exact absurd c (by omega)); intro _; conv => whnf)) | (focus ((with_reducible refine if_nei ?_ ?_); rotate_left; (intro c; exact absurd c (by omega)); intro _; conv => whnf)) | (focus ((with_reducible refine if_nei ?_ ?_); (intro c; exact absurd (by first | (with_reducible rfl) | omega) c); intro _; conv => whnf)) | (refine And.intro (by first | exact trivial | assumption | exact rfl | (with_reducible exact And.intro (by first | assumption | exact shp_int _ | exact shp_tI _ | exact shp_lI _) (by first | assumption | exact shp_int _ | exact shp_tnil | exact shp_nil | exact shp_tI _ | exact shp_lI _)) | (with_reducible exact RcOk.mk6 (by decide) (by decide) (by decide) (by omega) (by omega) (by omega) (by omega)) | decide | omega | (simp only [List.length_map, List.length_append, List.length_reverse, List.length_replicate, List.length_cons, List.length_nil, List.length_set, List.length_range]; omega)) ?_; conv => whnf) | simp only [List.set_cons_zero, List.set_cons_succ, List.length_cons, List.length_nil, List.length_map, List.cons_append, List.nil_append, List.replicate_succ, List.replicate_zero, Nat.reduceAdd, Nat.reduceSub, wipeR, resR, List.getElem?_cons_zero, List.getElem?_cons_succ]))))
def poolI : List (List Int) := [[1, 3, 0, 2], [2, 0, 3, 1], [1, 4, 2, 0, 3], [2, 4, 0, 3, 1], [0, 1, 2], [3, 0, 4, 2, 1]]
theorem pool_anti : ∀ b ∈ poolI, ∀ d ∈ poolI, plc d b ≠ [] → b.length < d.length ∨ b = d := by decide +kernel
theorem pool_row' : ∀ b ∈ poolI, List.isPerm b ((List.range b.length).map Int.ofNat) = true ∧ 1 ≤ b.length ∧ b.length ≤ 5 := by decide +kernel
theorem pool_row {b : List Int} (h : b ∈ poolI) : IsRow b ∧ 1 ≤ b.length ∧ b.length ≤ 5 := ⟨List.isPerm_iff.mp (pool_row' b h).1, (pool_row' b h).2⟩
def lesF (r : List Int) (d : D) : Option D := if (unD d).length < r.length ∧ plc r (unD d) ≠ [] then some (.int 1) else none
def selG (S : List (List Int)) (d : D) : Option D := if ((S.map tupD).filterMap (lesF (unD d))).isEmpty = true then some d else none
section
variable {Qd : R → Rn → Prop} {Qx : Xn → Prop} {B : List (List Int)} {row a b : List Int}
theorem least_rows_ok (ha : a ∈ poolI) (hb : b ∈ poolI) (h : ∀ (B : List (List Int)) ρ, BarsI B → Qd (.im (.tuple (B.map tupD))) ρ) : fnW 4 w_u_law_least_rows [.im (.list ([a, b].map tuI))] Qd Qx := by
  have mem : ∀ r ∈ [a, b], r ∈ poolI := fun r hr => by
    rcases List.mem_cons.mp hr with rfl | hr
    · exact ha
    · rw [List.mem_singleton.mp hr]; exact hb
  have side : ([a, b] : List (List Int)).length < 64 ∧ ((∀ k ∈ [a, b], 1 ≤ k.length) ∨ (uniqT [a, b]).length < 2) := ⟨by show 2 < 64; decide, .inl fun k hk => (pool_row (mem k hk)).2.1⟩
  refine fnW.mk ?_
  array_get_dec
  rw [keysT_tups]
  refine ⟨side, ?_⟩
  rw [srtT_I]
  generalize hS : srtT (uniqT [a, b]) = S
  have hSp : ∀ r ∈ S, r ∈ poolI := fun r hr => by
    rw [← hS] at hr
    exact mem r (uniqT_mem.mp ((srtT_perm _).mem_iff.mp hr))
  have hSl : S.length ≤ 2 := by
    rw [← hS, (srtT_perm _).length_eq]
    exact uniqT_len _
  have hSm : (S.map tupD).length ≤ 2 := by rw [List.length_map]; exact hSl
  array_get_dec
  refine wCmp_fm _ (selG S) (by rw [List.length_map]; omega) (fun d N M hd hN hM => ?_) fun ρ' hw => ?_
  · obtain ⟨r, hr, rfl⟩ := List.mem_map.mp hd
    obtain ⟨r1, r2, r3⟩ := pool_row (hSp r hr)
    unfold selG at hN hM
    rw [show unD (tupD r) = r from unD_tup r] at hN hM
    rw [show tupD r = .tuple (r.map PyData.int) from rfl] at hN ⊢
    array_get_dec
    refine wCmp_fm _ (lesF r) (by rw [List.length_map]; omega) (fun d N2 M2 hd hN2 hM2 => ?_) fun ρ' hw => ?_
    · obtain ⟨o, ho, rfl⟩ := List.mem_map.mp hd
      obtain ⟨o1, o2, o3⟩ := pool_row (hSp o ho)
      unfold lesF at hN2 hM2
      rw [show unD (tupD o) = o from unD_tup o] at hN2 hM2
      rw [show tupD o = .tuple (o.map PyData.int) from rfl]
      array_get_dec
      refine if_dec (fun c => ?_) fun c => ?_
      · array_get_dec
        refine is_in_ok r1 (by omega) (by omega) fun ρ => ?_
        by_cases c2 : plc r o = []
        · rw [if_neg fun z => z.2 c2] at hM2
          rw [decide_eq_true c2]
          array_get_dec
          exact hM2 rfl _ rfl
        · rw [if_pos ⟨by omega, c2⟩] at hN2
          rw [decide_eq_false c2]
          array_get_dec
          exact hN2 _ rfl _ rfl
      · rw [if_neg fun z => c (by omega)] at hM2
        array_get_dec
        exact hM2 rfl _ rfl
    · rw [hw]
      array_mem_dec
      refine ⟨⟨oth_shp _ (fun d => by unfold lesF; split <;> first | exact .inr rfl | exact .inl rfl) _, shp_nil⟩, ?_⟩
      rw [eqv_nil]
      refine if_hid (fun c => ?_) fun c => ?_
      · rw [if_pos c] at hN
        array_get_dec
        exact hN _ rfl _ rfl
      · rw [if_neg (by rw [c]; decide)] at hM
        array_get_dec
        exact hM rfl _ rfl
  · rw [hw, show selG S = fun d => if (fun d => ((S.map tupD).filterMap (lesF (unD d))).isEmpty) d = true then some d else none from rfl, sel_fm]
    have hsub : ∀ b ∈ S.filter (fun r => ((S.map tupD).filterMap (lesF (unD (tupD r)))).isEmpty), b ∈ S := fun b hb => (List.mem_filter.mp hb).1
    have hlen := List.length_filter_le (fun r => ((S.map tupD).filterMap (lesF (unD (tupD r)))).isEmpty) S
    have hB : BarsI (S.filter fun r => ((S.map tupD).filterMap (lesF (unD (tupD r)))).isEmpty) := by
      refine ⟨by omega, fun b hb => pool_row (hSp b (hsub b hb)), fun b hb d hd hw => ?_⟩
      have h1 := empty_fm (List.mem_filter.mp hd).2 b (hsub b hb)
      unfold lesF at h1
      rw [unD_tup, unD_tup] at h1
      rcases pool_anti b (hSp b (hsub b hb)) d (hSp d (hsub d hd)) hw with z | z
      · rw [if_pos ⟨z, hw⟩] at h1
        exact nomatch h1
      · exact z
    generalize S.filter (fun r => ((S.map tupD).filterMap (lesF (unD (tupD r)))).isEmpty) = B at hB hlen
    have hBl : (B.map tupD).length ≤ 10 := by rw [List.length_map]; omega
    array_mem_dec
    exact h _ _ hB
/-! ### a row without the bars -/
section
variable {Qd : R → Rn → Prop} {Qx : Xn → Prop}
theorem own_like_okT {l : List Int} (hl : l.length ≤ 1000) (h : ∀ ρ, Qd (.im (.tuple ((likeI l).map PyData.int))) ρ) : fnW 3 w_u_law_like [.im (.tuple (l.map PyData.int))] Qd Qx := by
  obtain ⟨e1, e2, e3⟩ := srt_spec l
  have hml := e2.length_eq
  refine fnW.mk ?_
  array_get_dec
  refine ⟨sort_side _, ?_⟩
  rw [e1]
  array_get_dec
  refine wCmp_ints l (fun x => ((idxI (srt l) x : Nat) : Int)) (by omega) (fun x N M hx hN => ?_) fun ρ' hw => ?_
  · have ef := firstAt_ints (e2.mem_iff.mpr hx)
    array_get_dec
    rw [ef]
    array_get_dec
    exact hN _ rfl
  · rw [hw]
    array_mem_dec
    exact h _
end

theorem likeI_len (l : List Int) : (likeI l).length = l.length := by unfold likeI; rw [List.length_map]
def plF (row : List Int) (d : D) : D := plcD row (unD d)
def nnF (d : D) : Option D := match d with
  | .none => none
  | d => some d
theorem pick_okT {ds : List D} (hl : ds.length ≤ 1000) (h1 : 1 ≤ ds.length) (h : ∀ d ∈ ds, ∀ ρ, Qd (.im d) ρ) : fnW 2 w_u_law_pick [.pot, .im (.tuple ds)] Qd Qx := by
  refine fnW.mk ?_
  array_get_dec
  refine of_ok (by omega) fun k hk ρ => ?_
  array_get_dec
  have hk1 := hk.1
  have hlt : k.toNat < ds.length := by have := hk.2; omega
  rw [atI_int hk1 (List.getElem?_eq_getElem hlt)]
  array_get_dec
  exact h _ (List.getElem_mem hlt) _
theorem plc_sh (row p : List Int) : plcD row p = .none ∨ ∃ x, plcD row p = tupD x ∧ x ∈ plc row p := by
  unfold plcD
  cases plc row p with
  | nil => exact .inl rfl
  | cons x l => exact .inr ⟨x, rfl, List.mem_cons_self⟩
theorem nn_mem {row : List Int} {B : List (List Int)} {d : D} (h : d ∈ ((B.map tupD).map (plF row)).filterMap nnF) : ∃ b ∈ B, ∃ x, d = tupD x ∧ x ∈ plc row b := by
  obtain ⟨e, he, hd⟩ := List.mem_filterMap.mp h
  rw [List.map_map] at he
  obtain ⟨b, hb, rfl⟩ := List.mem_map.mp he
  rw [show (plF row ∘ tupD) b = plcD row b by show plcD row (unD (tupD b)) = _; rw [unD_tup]] at hd
  rcases plc_sh row b with z | ⟨x, z, hx⟩
  · rw [z] at hd; exact nomatch hd
  · rw [z] at hd
    exact ⟨b, hb, x, (Option.some.inj hd).symm, hx⟩
theorem nn_ne {row : List Int} {B : List (List Int)} (h : ¬ ∀ b ∈ B, plc row b = []) : 0 < (((B.map tupD).map (plF row)).filterMap nnF).length := by
  obtain ⟨b, hb⟩ := Classical.not_forall.mp h
  obtain ⟨hb, hne⟩ := Classical.not_imp.mp hb
  rcases plc_sh row b with z | ⟨x, z, hx⟩
  · refine absurd ?_ hne
    unfold plcD at z
    cases e : plc row b with
    | nil => rfl
    | cons x l => rw [e] at z; exact nomatch z
  · refine List.length_pos_iff.mpr fun e => ?_
    have : tupD x ∈ ((B.map tupD).map (plF row)).filterMap nnF := List.mem_filterMap.mpr ⟨tupD x, List.mem_map.mpr ⟨tupD b, List.mem_map.mpr ⟨b, hb, rfl⟩, by unfold plF; rw [unD_tup, z]⟩, rfl⟩
    rw [e] at this
    exact nomatch this
theorem member_ok (hB : BarsI B) {most : Int} (h0 : 0 ≤ most) (h4 : most ≤ 4) (h : ∀ (r : List Int) ρ, IsRow r → (r.length : Int) ≤ most → (∀ b ∈ B, ¬ Wn b r) → Qd (.im (.tuple (r.map PyData.int))) ρ) : fnW 8 w_u_law_member [.pot, .im (.tuple (B.map tupD)), .im (.int most)] Qd Qx := by
  have few := hB.few
  refine fnW.mk ?_
  array_get_dec
  refine of_ok (by omega) fun k hk ρ => ?_
  have hk2 : 0 ≤ k ∧ k ≤ most := ⟨hk.1, by have := hk.2; omega⟩
  array_get_dec
  refine row_ok (by omega) (by omega) fun q ρ hq hql => ?_
  generalize eW : wWhile _ _ = W
  array_get_dec
  rw [← eW]
  refine wWhile_inv (fun m ρ => ∃ (r : List Int) (x4 x6 : Sl), ρ = [.pot, .im (.tuple (B.map tupD)), .im (.int most), .im (.tuple (r.map PyData.int)), x4, .no, x6, .no] ∧ m = r.length ∧ IsRow r ∧ (r.length : Int) ≤ most) q.length ⟨q, _, _, rfl, rfl, hq, by omega⟩ fun m ρ N2 ⟨r, x4, x6, e, hm, hr, hrl⟩ hM => ?_
  subst e
  array_get_dec
  refine is_member_ok hB hr (by omega) fun ρ => ?_
  by_cases c : ∀ b ∈ B, plc r b = []
  · rw [decide_eq_true c]
    array_get_dec
    exact h r _ hr hrl fun b hb z => z (c b hb)
  · rw [decide_eq_false c]
    array_get_dec
    refine wCmp_map _ (plF r) (by rw [List.length_map]; omega) (fun d N M hd hN => ?_) fun ρ' hw => ?_
    · obtain ⟨b, hb, rfl⟩ := List.mem_map.mp hd
      have b3 := (hB.row b hb).2.2
      unfold plF at hN
      rw [unD_tup] at hN
      rw [show tupD b = .tuple (b.map PyData.int) from rfl]
      array_get_dec
      refine placing_ok hr (by omega) b3 fun ρ => ?_
      array_get_dec
      exact hN _ rfl
    have hne := nn_ne c
    have hmem := fun d => nn_mem (row := r) (B := B) (d := d)
    generalize eL : (B.map tupD).map (plF r) = L at hne hmem
    have lL : L.length ≤ 10 := by rw [← eL, List.length_map, List.length_map]; omega
    have hsh : ∀ d ∈ L, d = .none ∨ ∃ x : List Int, d = .tuple (x.map PyData.int) := fun d hd => by
      rw [← eL] at hd
      obtain ⟨e, he, rfl⟩ := List.mem_map.mp hd
      rcases plc_sh r (unD e) with z | ⟨x, z, _⟩
      · exact .inl z
      · exact .inr ⟨x, z⟩
    rw [hw]
    array_mem_dec
    refine wCmp_fm _ nnF (by omega) (fun d N M hd hN hM => ?_) fun ρ' hw => ?_
    · rcases hsh d hd with rfl | ⟨x, rfl⟩
      · array_get_dec
        exact hM rfl _ rfl
      · array_get_dec
        exact hN _ rfl _ rfl
    rw [show List.set ρ' 7 Sl.no = _ from hw]
    generalize L.filterMap nnF = M1 at hne hmem
    obtain ⟨d0, rest, rfl⟩ : ∃ d0 rest, M1 = d0 :: rest := by
      cases M1 with
      | nil => exact absurd hne (by decide)
      | cons d0 rest => exact ⟨_, _, rfl⟩
    obtain ⟨b, hb, x, rfl, hx⟩ := hmem d0 List.mem_cons_self
    obtain ⟨px, pl⟩ := mem_plc.mp hx
    obtain ⟨b1, b2, b3⟩ := hB.row b hb
    rw [show tupD x = .tuple (x.map PyData.int) from rfl]
    array_mem_dec
    rw [show atI (PyData.tuple (x.map PyData.int) :: rest) 0 = some (.tuple (x.map PyData.int)) from atI_int (by decide) rfl]
    array_get_dec
    refine pick_okT (ds := x.map PyData.int) (by rw [List.length_map]; omega) (by rw [List.length_map]; omega) fun d hd ρ => ?_
    obtain ⟨v, hv, rfl⟩ := List.mem_map.mp hd
    obtain ⟨i, hi⟩ := List.getElem?_of_mem hv
    have bv := px.bd i (List.getElem?_eq_some_iff.mp hi).1
    rw [pG_of hi] at bv
    obtain ⟨n, rfl⟩ : ∃ n : Nat, v = (n : Int) := ⟨v.toNat, by omega⟩
    array_get_dec
    rw [cutD_tk, ← List.map_take]
    have lt : (r.take n).length ≤ 4 := Nat.le_trans (List.length_take_le _ _) (by omega)
    have ld : (r.drop (n + 1)).length ≤ 4 := by rw [List.length_drop]; omega
    array_get_dec
    rw [show (n : Int) + 1 = ((n + 1 : Nat) : Int) from rfl, cutD_dr, ← List.map_drop]
    array_get_dec
    have nd : (r.take n ++ r.drop (n + 1)).Nodup := by
      rw [← List.eraseIdx_eq_take_drop_succ]
      exact hr.nodup.sublist (List.eraseIdx_sublist _ _)
    have ll : (r.take n ++ r.drop (n + 1)).length = r.length - 1 := by
      rw [List.length_append, List.length_take, List.length_drop]
      omega
    have lk := likeI_len (r.take n ++ r.drop (n + 1))
    rw [← List.map_append]
    refine own_like_okT (by omega) fun ρ => ?_
    array_get_dec
    exact hM (likeI (r.take n ++ r.drop (n + 1))).length _ (by omega) ⟨_, _, _, rfl, rfl, likeI_row nd, by omega⟩
end
end Tr

namespace Tr
open PySem L2
theorem wn_len {p r : List Int} (h : Wn p r) : p.length ≤ r.length := by
  obtain ⟨x, hx, lx⟩ := wn_iff.mp h
  rw [← lx]
  have key : ∀ i, i < x.length → (i : Int) ≤ pG x i := fun i => by
    induction i with
    | zero => intro h; exact (hx.bd 0 h).1
    | succ i ih =>
      intro h
      have a := ih (by omega)
      have b := hx.up i (i + 1) (by omega) h
      omega
  by_cases c : x.length = 0
  · omega
  · have a := key (x.length - 1) (by omega)
    have b := hx.bd (x.length - 1) (by omega)
    omega
theorem like_C {l : List Int} (hn : l.Nodup) : likeI l = likeC l := by
  unfold likeI likeC
  exact List.map_congr_left fun x hx => by rw [idx_cnt hn hx]
/-- what stands at the places -/
def atL (b : List Int) (L : List Nat) : List Int := L.map (pG b)
theorem take_at {b : List Int} {c : Nat} (h : c ≤ b.length) : b.take c = atL b (List.range c) := by
  refine List.ext_getElem? fun i => ?_
  unfold atL
  rw [List.getElem?_take, List.getElem?_map]
  by_cases z : i < c
  · rw [if_pos z, List.getElem?_range z, pG_get (by omega)]
    rfl
  · rw [if_neg z, List.getElem?_eq_none (by rw [List.length_range]; omega)]
    rfl
theorem drop_at {b : List Int} {c : Nat} : b.drop c = atL b ((List.range (b.length - c)).map (c + ·)) := by
  refine List.ext_getElem? fun i => ?_
  unfold atL
  rw [List.getElem?_drop, List.getElem?_map, List.getElem?_map]
  by_cases z : i < b.length - c
  · rw [List.getElem?_range z, pG_get (by omega)]
    rfl
  · rw [List.getElem?_eq_none (by omega), List.getElem?_eq_none (by rw [List.length_range]; omega)]
    rfl
theorem mid_at {b : List Int} {i j : Nat} (h : j ≤ b.length) : midI b i j = atL b ((List.range (j - i)).map (i + ·)) := by
  refine List.ext_getElem? fun t => ?_
  unfold atL midI
  rw [List.getElem?_drop, List.getElem?_take, List.getElem?_map, List.getElem?_map]
  by_cases z : t < j - i
  · rw [if_pos (by omega), List.getElem?_range z, pG_get (by omega)]
    rfl
  · rw [if_neg (by omega), List.getElem?_eq_none (l := List.range (j - i)) (by rw [List.length_range]; omega)]
    rfl
theorem part_out {B : List (List Int)} (hB : BarsI B) {b : List Int} (hb : b ∈ B) {L : List Nat} (hL : L.Pairwise (· < ·)) (hl : ∀ q ∈ L, q < b.length) (hs : L.length < b.length) : IsRow (likeI (atL b L)) ∧ (atL b L).Nodup ∧ ∀ d ∈ B, ¬ Wn d (likeI (atL b L)) := by
  obtain ⟨b1, b2, b3⟩ := hB.row b hb
  have lot : Lot b.length L.length (L.map Int.ofNat) := by
    refine ⟨by rw [List.length_map], fun q hq => ?_, ?_⟩
    · obtain ⟨n, hn, rfl⟩ := List.mem_map.mp hq
      have := hl n hn
      show (0 : Int) ≤ (n : Int) ∧ (n : Int) ≤ _
      omega
    · rw [List.pairwise_map]
      exact hL.imp fun h => Int.ofNat_lt.mpr h
  have e : atL b L = (L.map Int.ofNat).map (atI0 b) := by
    unfold atL
    rw [List.map_map]
    exact List.map_congr_left fun n _ => rfl
  have nd : (atL b L).Nodup := by rw [e]; exact places_nodup b1.nodup lot.bd lot.up
  have hr := likeI_row nd
  refine ⟨hr, nd, fun d hd hw => ?_⟩
  have h1 : Wn (likeI (atL b L)) b := by
    rw [e] at hr ⊢
    exact like_wn b1 lot hr
  have h2 := hB.anti d hd b hb (wn_trans hw h1)
  rw [h2] at hw
  have h3 := wn_len hw
  rw [likeI_len] at h3
  unfold atL at h3
  rw [List.length_map] at h3
  omega
theorem range_up (n : Nat) : (List.range n).Pairwise (· < ·) := List.pairwise_lt_range
theorem shift_up (c n : Nat) : ((List.range n).map (c + ·)).Pairwise (· < ·) := by
  rw [List.pairwise_map]
  exact (range_up n).imp fun h => by omega
/-! ### sums and filled rows are rows -/
theorem row_of {l : List Int} (hn : l.Pairwise (· ≠ ·)) (hb : ∀ x ∈ l, 0 ≤ x ∧ x < l.length) : IsRow l := nodup_range_perm hn hb
theorem add_nodup {a : List Int} (h : a.Nodup) (n : Int) : (a.map (· + n)).Nodup := by
  unfold List.Nodup at h ⊢
  rw [List.pairwise_map]
  exact h.imp fun h e => h (by omega)
theorem sum_row {a b : List Int} (ha : IsRow a) (hb : IsRow b) : IsRow (sumI a b) := by
  unfold sumI
  refine row_of ?_ fun x hx => ?_
  · refine List.nodup_append.mpr ⟨ha.nodup, add_nodup hb.nodup _, fun x hx y hy e => ?_⟩
    obtain ⟨z, hz, rfl⟩ := List.mem_map.mp hy
    have := ha.mem.mp hx
    have := hb.mem.mp hz
    omega
  · rw [List.length_append, List.length_map]
    rcases List.mem_append.mp hx with h | h
    · have := ha.mem.mp h; omega
    · obtain ⟨z, hz, rfl⟩ := List.mem_map.mp h
      have := hb.mem.mp hz; omega
theorem skew_row {a b : List Int} (ha : IsRow a) (hb : IsRow b) : IsRow (skewI a b) := by
  unfold skewI
  refine row_of ?_ fun x hx => ?_
  · refine List.nodup_append.mpr ⟨add_nodup ha.nodup _, hb.nodup, fun x hx y hy e => ?_⟩
    obtain ⟨z, hz, rfl⟩ := List.mem_map.mp hx
    have := hb.mem.mp hy
    have := ha.mem.mp hz
    omega
  · rw [List.length_append, List.length_map]
    rcases List.mem_append.mp hx with h | h
    · obtain ⟨z, hz, rfl⟩ := List.mem_map.mp h
      have := ha.mem.mp hz; omega
    · have := hb.mem.mp h; omega
theorem tag_len : ∀ (ps : List (List Int)) (g : Nat), (tagF g ps).length = (ps.map List.length).sum
  | [], g => rfl
  | p :: ps, g => by rw [tagF, List.length_append, List.length_map, List.length_range, tag_len ps, List.map_cons, List.sum_cons]
theorem sum_perm : ∀ {l m : List Nat}, l.Perm m → l.sum = m.sum := fun h => by
  induction h with
  | nil => rfl
  | cons x _ ih => rw [List.sum_cons, List.sum_cons, ih]
  | swap x y l => rw [List.sum_cons, List.sum_cons, List.sum_cons, List.sum_cons]; omega
  | trans _ _ a b => exact a.trans b
theorem sz_sum {row : List Int} {parts : List (List Int)} (hr : IsRow row) (hp : parts.length = row.length) : (szI row parts).sum = (parts.map List.length).sum := by
  have e1 : parts.map List.length = (List.range row.length).map fun g => (parts.getD g []).length := by
    refine List.ext_getElem? fun i => ?_
    rw [List.getElem?_map, List.getElem?_map]
    by_cases h : i < parts.length
    · rw [List.getElem?_eq_getElem h, List.getElem?_range (by omega), Option.map_some, Option.map_some, List.getD_eq_getElem?_getD, List.getElem?_eq_getElem h]
      rfl
    · rw [List.getElem?_eq_none (by omega), List.getElem?_eq_none (by rw [List.length_range]; omega)]
      rfl
  have e2 : szI row parts = ((List.range row.length).map fun i : Nat => idxI row (i : Int)).map fun g => (parts.getD g []).length := by
    unfold szI
    rw [List.map_map]
    rfl
  rw [e1, e2]
  refine sum_perm (List.Perm.map _ ?_)
  have pm : ((List.range row.length).map fun i : Nat => ((idxI row (i : Int) : Nat) : Int)).Perm ((List.range row.length).map Int.ofNat) := by
    refine perm_of_sub _ _ ?_ (fun x hx => ?_) (by rw [List.length_map, List.length_map])
    · unfold List.Nodup
      rw [List.pairwise_map]
      have hm : ∀ i : Nat, i < row.length → row[idxI row (i : Int)]? = some (i : Int) := fun i hi => idxI_get (hr.mem.mpr ⟨by omega, by omega⟩)
      have : (List.range row.length).Pairwise fun a b => a < b ∧ a < row.length ∧ b < row.length := by
        rw [List.pairwise_iff_getElem]
        intro i j hi hj hij
        rw [List.length_range] at hi hj
        rw [List.getElem_range, List.getElem_range]
        exact ⟨hij, hi, hj⟩
      refine this.imp fun ⟨h1, h2, h3⟩ e => ?_
      have a := hm _ h2
      have b := hm _ h3
      rw [Int.ofNat.inj e, b] at a
      have := Option.some.inj a
      omega
    · obtain ⟨i, hi, rfl⟩ := List.mem_map.mp hx
      have hi := List.mem_range.mp hi
      have := idxI_lt (hr.mem.mpr ⟨by omega, by omega⟩ : (i : Int) ∈ row)
      exact List.mem_map.mpr ⟨_, List.mem_range.mpr this, rfl⟩
  have := pm.map Int.toNat
  rw [List.map_map, List.map_map] at this
  rw [show (List.range row.length).map (Int.toNat ∘ fun i : Nat => ((idxI row (i : Int) : Nat) : Int)) = (List.range row.length).map fun i : Nat => idxI row (i : Int) from rfl] at this
  rw [show (List.range row.length).map (Int.toNat ∘ Int.ofNat) = List.range row.length from List.map_id _] at this
  exact this
theorem fill_row {row : List Int} {parts : List (List Int)} (hr : IsRow row) (hp : parts.length = row.length) (hps : ∀ q ∈ parts, IsRow q) : IsRow (fillI row parts) := by
  have prow : ∀ g, g < row.length → IsRow (parts.getD g []) := fun g hg => by
    refine hps _ ?_
    rw [List.getD_eq_getElem?_getD, List.getElem?_eq_getElem (by omega)]
    exact List.getElem_mem _
  have bd : ∀ t ∈ tagF 0 parts, t.1 < row.length ∧ 0 ≤ pG (parts.getD t.1 []) t.2 ∧ pG (parts.getD t.1 []) t.2 < (parts.getD t.1 []).length ∧ t.2 < (parts.getD t.1 []).length := fun t ht => by
    have := tag_bd parts 0 t ht
    rw [Nat.sub_zero] at this
    have b := pG_row (prow t.1 (by omega)) this.2.2
    exact ⟨by omega, b.1, b.2, this.2.2⟩
  unfold fillI
  refine row_of ?_ fun x hx => ?_
  · rw [List.pairwise_map]
    have : (tagF 0 parts).Pairwise fun s t => tLt s t ∧ s ∈ tagF 0 parts ∧ t ∈ tagF 0 parts := by
      rw [List.pairwise_iff_getElem]
      intro i j hi hj hij
      exact ⟨List.pairwise_iff_getElem.mp (tag_up parts 0) i j hi hj hij, List.getElem_mem _, List.getElem_mem _⟩
    refine this.imp fun {s t} ⟨h1, h2, h3⟩ e => ?_
    obtain ⟨s1, s2, s3, s4⟩ := bd s h2
    obtain ⟨t1, t2, t3, t4⟩ := bd t h3
    unfold valI at e
    by_cases c : s.1 = t.1
    · rw [c] at e
      have c2 : s.2 < t.2 := by
        rcases h1 with z | z
        · omega
        · exact z.2
      have := pG_nodup (prow t.1 t1).nodup (i := s.2) (j := t.2) (by rw [← c]; exact s4) t4 (by omega)
      omega
    · by_cases o : pG row s.1 < pG row t.1
      · have := bs_step (parts := parts) hr s1 t1 o
        omega
      · have ne : pG row s.1 ≠ pG row t.1 := fun z => c (pG_nodup hr.nodup s1 t1 z)
        have := bs_step (parts := parts) hr t1 s1 (by omega)
        omega
  · obtain ⟨t, ht, rfl⟩ := List.mem_map.mp hx
    obtain ⟨t1, t2, t3, t4⟩ := bd t ht
    have b1 := pG_row hr t1
    have e : (szI row parts).take ((pG row t.1).toNat + 1) = (szI row parts).take (pG row t.1).toNat ++ [(parts.getD t.1 []).length] := by
      rw [List.take_add_one]
      congr 1
      unfold szI
      rw [List.getElem?_map, List.getElem?_range (by omega)]
      show [(parts.getD (idxI row (((pG row t.1).toNat : Nat) : Int)) []).length] = _
      rw [show (((pG row t.1).toNat : Nat) : Int) = pG row t.1 by omega, idx_row hr t1]
    have lz : (szI row parts).length = row.length := by unfold szI; rw [List.length_map, List.length_range]
    have m := take_mono (szI row parts) ((pG row t.1).toNat + 1) row.length (by omega)
    have tk : (szI row parts).take row.length = szI row parts := List.take_of_length_le (by omega)
    rw [e, List.sum_append, List.sum_cons, List.sum_nil, tk, sz_sum hr hp] at m
    rw [List.length_map, tag_len]
    unfold valI bsI
    omega
theorem fill_len (row : List Int) (parts : List (List Int)) : (fillI row parts).length = (parts.map List.length).sum := by unfold fillI; rw [List.length_map, tag_len]
end Tr

namespace Tr
open PySem L2
def TP : WS := wSeq (wIfS (wAnd (wT (w2 (v2 (gIsN false)) (w2 (v2 gIx) (wV 2) (wV 5)) (wC .none))) (wT (w2 (v2 (gIsN true)) (wCallL 5 2 w_barred_by (wCons (wV 1) (wCons (wCallL 4 3 w_u_law_put (wCons (wV 3) (wCons (wV 4) (wCons (w2 (v2 gEq) (wV 5) (wC (.int 1))) (wN))))) (wN)))) (wC .none)))) (wRet (wC (.bool false))) (wNil)) (wIfS (wT (w2 (v2 (gIsN true)) (w2 (v2 gIx) (wV 2) (wV 5)) (wC .none))) (wSeq (wPar 6 7 (w2 (v2 gIx) (wV 1) (w2 (v2 gIx) (w2 (v2 gIx) (wV 2) (wV 5)) (wC (.int 0)))) (w2 (v2 gIx) (w2 (v2 gIx) (wV 2) (wV 5)) (wC (.int 1)))) (wSeq (wSet 8 (wA fLst (wCons (wCallL 3 1 w_u_law_like (wCons (wSl (wV 6) (wON) (wOS (wV 7))) (wN))) (wCons (wCallL 3 1 w_u_law_like (wCons (wSl (wV 6) (wOS (wV 7)) (wON)) (wN))) (wN))))) (wIfS (wOr (wT (w2 (v2 gNe) (wLc [9] (wiS (wV 8)) (wgN 9) (wYes) (wCallL 5 2 w_barred_by (wCons (wV 1) (wCons (wV 9) (wN))))) (wA fLst (wCons (wC .none) (wCons (wC .none) (wN)))))) (wT (w2 (v2 gNe) (wCallL 4 3 w_u_law_put (wCons (w2 (v2 gIx) (wV 8) (wC (.int 0))) (wCons (w2 (v2 gIx) (wV 8) (wC (.int 1))) (wCons (w2 (v2 gEq) (wV 5) (wC (.int 1))) (wN))))) (wV 6)))) (wRet (wC (.bool false))) (wNil)))) (wNil))
def TQ : WS := wSeq (wSet 10 (wCallL 8 3 w_u_law_member (wCons (wV 0) (wCons (wV 1) (wCons (wC (.int 3)) (wN)))))) (wSeq (wIfS (wT (w2 (v2 (gIsN false)) (w2 (v2 gIx) (wV 2) (wC (.int 2))) (wC .none))) (wSeq (wSet 9 (wCallL 7 2 w_u_law_filled (wCons (wV 10) (wCons (wLc [11] (wiS (wV 10)) (wgN 11) (wYes) (wCallL 8 3 w_u_law_member (wCons (wV 0) (wCons (wV 1) (wCons (wC (.int 3)) (wN)))))) (wN))))) (wRet (w2 (v2 (gIsN false)) (wCallL 5 2 w_barred_by (wCons (wV 1) (wCons (wV 9) (wN)))) (wC .none)))) (wNil)) (wSeq (wAsg (wA fTup (wCons (w2 (v2 gIx) (wV 1) (w2 (v2 gIx) (w2 (v2 gIx) (wV 2) (wC (.int 2))) (wC (.int 0)))) (wCons (w2 (v2 gIx) (w2 (v2 gIx) (wV 2) (wC (.int 2))) (wC (.int 1))) (wN)))) (wgQ 2 (wgsC (wgN 6) (wgsC (wgQ 2 (wgsC (wgN 12) (wgsC (wgN 13) (wgsN)))) (wgsN))))) (wSeq (wAsg (wA fTup (wCons (wCallL 3 1 w_u_law_like (wCons (w2 (v2 gAdd) (wSl (wV 6) (wON) (wOS (w2 (v2 gAdd) (wV 12) (wC (.int 1))))) (wSl (wV 6) (wOS (wV 13)) (wON))) (wN))) (wCons (wCallL 3 1 w_u_law_like (wCons (wSl (wV 6) (wOS (wV 12)) (wOS (wV 13))) (wN))) (wN)))) (wgQ 2 (wgsC (wgN 14) (wgsC (wgN 15) (wgsN))))) (wSeq (wSet 8 (wLc [11] (wiR (wRg1 (wCons (wA (vA1 gLen) (wCons (wV 14) (wN))) (wN)))) (wgN 11) (wYes) (wIf (wT (w2 (v2 gEq) (wV 11) (wV 12))) (wV 15) (wA fTup (wCons (wC (.int 0)) (wN)))))) (wRet (wAndV (w2 (v2 gEq) (wA fLst (wCons (wCallL 5 2 w_barred_by (wCons (wV 1) (wCons (wV 14) (wN)))) (wCons (wCallL 5 2 w_barred_by (wCons (wV 1) (wCons (wV 15) (wN)))) (wN)))) (wA fLst (wCons (wC .none) (wCons (wC .none) (wN))))) (w2 (v2 gEq) (wCallL 7 2 w_u_law_filled (wCons (wV 14) (wCons (wV 8) (wN)))) (wV 6))))))))
def dueD (B : List (List Int)) : D := .list [cutD' (cutO false B), cutD' (cutO true B), blkD' (blkO B)]
theorem no_cut {B : List (List Int)} (hB : BarsI B) {sk : Bool} (h : cutO sk B = none) {b : List Int} (hb : b ∈ B) : NoCut (!sk) b := fun c c0 c1 => by
  have h1 := fndB_none B 0 h b hb
  have h2 := fnd_none _ _ h1 c (by omega) (by omega)
  have fin := hB.fin hb
  simp only [Bool.and_eq_true] at fin
  have h3 := List.all_eq_true.mp fin.1.1.1.2 c (List.mem_range.mpr c1)
  rw [Bool.or_eq_true, beq_iff_eq] at h3
  rcases h3 with z | z
  · omega
  have z := List.all_eq_true.mp z sk (by cases sk <;> decide)
  rw [h2, Bool.false_or] at z
  obtain ⟨i, hi, z⟩ := List.any_eq_true.mp z
  obtain ⟨j, hj, z⟩ := List.any_eq_true.mp z
  rw [Bool.and_eq_true, decide_eq_true_eq] at z
  refine ⟨i, j, List.mem_range.mp hi, z.1, List.mem_range.mp hj, ?_⟩
  have z2 := z.2
  cases sk
  · simp only [Bool.false_eq_true, if_false, decide_eq_true_eq, Bool.not_false, if_true] at z2 ⊢
    exact z2
  · simp only [if_true, decide_eq_true_eq, Bool.not_true, Bool.false_eq_true, if_false] at z2 ⊢
    exact z2
theorem put_row {sk : Bool} {a b : List Int} (ha : IsRow a) (hb : IsRow b) : IsRow (if sk = true then skewI a b else sumI a b) := by
  cases sk
  · exact sum_row ha hb
  · exact skew_row ha hb
theorem put_len {sk : Bool} {a b : List Int} : (if sk = true then skewI a b else sumI a b).length = a.length + b.length := by
  cases sk
  · show (sumI a b).length = _
    unfold sumI; rw [List.length_append, List.length_map]
  · show (skewI a b).length = _
    unfold skewI; rw [List.length_append, List.length_map]
theorem put_out {B : List (List Int)} (hB : BarsI B) {sk : Bool} (h : cutO sk B = none) {a o : List Int} (ha : IsRow a) (ho : IsRow o) (na : ∀ b ∈ B, ¬ Wn b a) (no : ∀ b ∈ B, ¬ Wn b o) : ∀ b ∈ B, ¬ Wn b (if sk = true then skewI a o else sumI a o) := fun b hb hw => by
  have hc := no_cut hB h hb
  have e : (if sk = true then skewI a o else sumI a o) = if (!sk) = true then sumI a o else skewI a o := by cases sk <;> rfl
  rw [e] at hw
  rcases put_wn ha ho hc hw (hB.row b hb).2.1 with z | z
  · exact na b hb z
  · exact no b hb z
/-- a bar with a cut: what its parts are -/
theorem cut_is {B : List (List Int)} (hB : BarsI B) {sk : Bool} {k c : Nat} (h : cutO sk B = some (k, c)) : ∃ b, B[k]? = some b ∧ b ∈ B ∧ 1 ≤ c ∧ c < b.length ∧ (b.take c).Nodup ∧ (b.drop c).Nodup ∧ IsRow (likeI (b.take c)) ∧ IsRow (likeI (b.drop c)) ∧ (∀ d ∈ B, ¬ Wn d (likeI (b.take c))) ∧ (∀ d ∈ B, ¬ Wn d (likeI (b.drop c))) ∧ (if sk = true then skewI (likeI (b.take c)) (likeI (b.drop c)) else sumI (likeI (b.take c)) (likeI (b.drop c))) = b := by
  obtain ⟨b, _, h1, h2⟩ := fndB_some B 0 k c h
  rw [Nat.sub_zero] at h1
  have hb := List.mem_of_getElem? h1
  obtain ⟨c1, c2, c3⟩ := fnd_some _ _ _ h2
  have hcl : c < b.length := by omega
  have t1 := part_out hB hb (L := List.range c) (range_up c) (fun q hq => by have := List.mem_range.mp hq; omega) (by rw [List.length_range]; exact hcl)
  have t2 := part_out hB hb (L := (List.range (b.length - c)).map (c + ·)) (shift_up _ _) (fun q hq => by
    obtain ⟨m, hm, rfl⟩ := List.mem_map.mp hq
    have := List.mem_range.mp hm
    omega) (by rw [List.length_map, List.length_range]; omega)
  rw [← take_at (by omega)] at t1
  rw [← drop_at] at t2
  have fin := hB.fin hb
  simp only [Bool.and_eq_true] at fin
  have h3 := List.all_eq_true.mp fin.1.2 c (List.mem_range.mpr hcl)
  rw [Bool.or_eq_true, beq_iff_eq] at h3
  refine ⟨b, h1, hb, c1, hcl, t1.2.1, t2.2.1, t1.1, t2.1, t1.2.2, t2.2.2, ?_⟩
  rcases h3 with z | z
  · omega
  rw [like_C t1.2.1, like_C t2.2.1]
  simp only [Bool.and_eq_true, Bool.or_eq_true, Bool.not_eq_true', beq_iff_eq] at z
  cases sk
  · rcases z.1 with y | y
    · rw [c3] at y; exact nomatch y
    · exact y
  · rcases z.2 with y | y
    · rw [c3] at y; exact nomatch y
    · exact y
theorem no_blk {B : List (List Int)} (hB : BarsI B) (h : blkO B = none) {b : List Int} (hb : b ∈ B) : NoBlk b := fun lo hi h1 h2 h3 => by
  have e1 := fndB_none B 0 h b hb
  have e2 := fndO_none _ _ e1 lo (Nat.zero_le _) (by omega)
  have e3 := fnd_none _ _ e2 hi (by omega) (by omega)
  have fin := hB.fin hb
  simp only [Bool.and_eq_true] at fin
  have z := List.all_eq_true.mp (List.all_eq_true.mp fin.1.1.2 lo (List.mem_range.mpr (by omega))) hi (List.mem_range.mpr (by omega))
  rw [e3, Bool.or_false, decide_eq_true (⟨h1, h3⟩ : lo + 2 ≤ hi ∧ hi - lo < b.length)] at z
  rw [Bool.not_true, Bool.false_or] at z
  obtain ⟨c, hc, z⟩ := List.any_eq_true.mp z
  rw [Bool.and_eq_true] at z
  obtain ⟨s, hs, z2⟩ := List.any_eq_true.mp z.2
  obtain ⟨t, ht, z3⟩ := List.any_eq_true.mp z2
  simp only [Bool.and_eq_true, Bool.or_eq_true, decide_eq_true_eq, Bool.not_eq_true', decide_eq_false_iff_not] at z z3
  exact ⟨c, s, t, List.mem_range.mp hc, z.1, z3.1.1.1.1.1, z3.1.1.1.1.2, z3.1.1.1.2, z3.1.1.2, z3.1.2, z3.2⟩
/-- a bar with a block -/
theorem blk_is {B : List (List Int)} (hB : BarsI B) {k i j : Nat} (h : blkO B = some (k, i, j)) : ∃ b, B[k]? = some b ∧ b ∈ B ∧ i + 2 ≤ j ∧ j ≤ b.length ∧ j - i < b.length ∧ (b.take (i + 1) ++ b.drop j).Nodup ∧ (midI b i j).Nodup ∧ IsRow (likeI (b.take (i + 1) ++ b.drop j)) ∧ IsRow (likeI (midI b i j)) ∧ (∀ d ∈ B, ¬ Wn d (likeI (b.take (i + 1) ++ b.drop j))) ∧ (∀ d ∈ B, ¬ Wn d (likeI (midI b i j))) ∧
    fillI (likeI (b.take (i + 1) ++ b.drop j)) ((List.range (likeI (b.take (i + 1) ++ b.drop j)).length).map fun t => if t = i then likeI (midI b i j) else [0]) = b := by
  obtain ⟨b, _, h1, h2⟩ := fndB_some B 0 k (i, j) h
  rw [Nat.sub_zero] at h1
  have hb := List.mem_of_getElem? h1
  obtain ⟨_, c2, c3⟩ := fndO_some _ _ _ _ h2
  obtain ⟨d1, d2, d3⟩ := fnd_some _ _ _ c3
  have hji : j - i < b.length := by
    unfold blkT at d3
    rw [Bool.and_eq_true, decide_eq_true_eq] at d3
    exact d3.1
  have jl : j ≤ b.length := by omega
  have t1 := part_out hB hb (L := (List.range (j - i)).map (i + ·)) (shift_up _ _) (fun q hq => by
    obtain ⟨m, hm, rfl⟩ := List.mem_map.mp hq
    have := List.mem_range.mp hm
    omega) (by rw [List.length_map, List.length_range]; omega)
  have t2 := part_out hB hb (L := List.range (i + 1) ++ (List.range (b.length - j)).map (j + ·)) (by
    rw [List.pairwise_append]
    refine ⟨range_up _, shift_up _ _, fun a ha c hc => ?_⟩
    obtain ⟨m, hm, rfl⟩ := List.mem_map.mp hc
    have := List.mem_range.mp ha
    omega) (fun q hq => by
    rcases List.mem_append.mp hq with z | z
    · have := List.mem_range.mp z; omega
    · obtain ⟨m, hm, rfl⟩ := List.mem_map.mp z
      have := List.mem_range.mp hm
      omega) (by rw [List.length_append, List.length_map, List.length_range, List.length_range]; omega)
  have eo : atL b (List.range (i + 1) ++ (List.range (b.length - j)).map (j + ·)) = b.take (i + 1) ++ b.drop j := by
    rw [take_at (by omega), drop_at]
    unfold atL
    rw [List.map_append]
  rw [eo] at t2
  rw [← mid_at jl] at t1
  have fin := hB.fin hb
  simp only [Bool.and_eq_true] at fin
  have z := List.all_eq_true.mp (List.all_eq_true.mp fin.2 i (List.mem_range.mpr (by omega))) j (List.mem_range.mpr (by omega))
  rw [decide_eq_true (show i + 2 ≤ j by omega), d3] at z
  simp only [Bool.not_true, Bool.false_or, beq_iff_eq] at z
  refine ⟨b, h1, hb, by omega, jl, hji, t2.2.1, t1.2.1, t2.1, t1.1, t2.2.2, t1.2.2, ?_⟩
  rw [like_C t2.2.1, like_C t1.2.1]
  exact z
end Tr

namespace Tr
open PySem L2
local macro_rules | `(tactic| array_get_dec) => `(tactic| ((conv => whnf); (repeat (first | ((with_reducible refine if_nT ?_); conv => whnf) | ((with_reducible refine if_T ?_); conv => whnf) | ((with_reducible refine if_nT2 ?_); conv => whnf) | ((with_reducible refine if_nF ?_); conv => whnf) | ((with_reducible refine if_yes ?_); conv => whnf) | ((with_reducible refine if_no ?_); conv => whnf) | ((with_reducible refine if_bT ?_); conv => whnf) | ((with_reducible refine if_bF ?_); conv => whnf) | (focus ((with_reducible refine if_dec ?_ ?_); rotate_left; (intro c; exact absurd (by first | (with_reducible rfl) | omega) c); intro _; conv => whnf)) | (focus ((with_reducible refine if_dec ?_ ?_); (intro c; exact absurd c (by omega)); intro _; conv => whnf)) | (focus ((with_reducible refine if_ndec ?_ ?_); rotate_left; (intro c; exact absurd c (by omega)); intro _; conv => whnf)) | (focus ((with_reducible refine if_ndec ?_ ?_); (intro c; exact absurd (by first | (with_reducible rfl) | omega) c); intro _; conv => whnf)) | (focus ((with_reducible refine if_eqi ?_ ?_); rotate_left; (intro c; exact absurd (by first | (with_reducible rfl) | omega) c); intro _; conv => whnf)) | (focus ((with_reducible refine if_eqi ?_ ?_); (intro c; exact absurd c (by omega)); intro _; conv => whnf)) | (focus ((with_reducible refine if_nei ?_ ?_); rotate_left; (intro c; exact absurd c (by omega)); intro _; conv => whnf)) | (focus ((with_reducible refine if_nei ?_ ?_); (intro c; exact absurd (by first | (with_reducible rfl) | omega) c); intro _; conv => whnf)) | (refine And.intro (by first | exact trivial | assumption | exact rfl | (with_reducible exact And.intro (by first | assumption | exact shp_int _ | exact shp_tI _ | exact shp_lI _) (by first | assumption | exact shp_int _ | exact shp_tnil | exact shp_nil | exact shp_tI _ | exact shp_lI _)) | (with_reducible exact RcOk.mk6 (by decide) (by decide) (by decide) (by omega) (by omega) (by omega) (by omega)) | decide | omega | (simp only [List.length_map, List.length_append, List.length_reverse, List.length_replicate, List.length_cons, List.length_nil, List.length_set, List.length_range]; omega)) ?_; conv => whnf) | simp only [List.set_cons_zero, List.set_cons_succ, List.length_cons, List.length_nil, List.length_map, List.cons_append, List.nil_append, List.replicate_succ, List.replicate_zero, Nat.reduceAdd, Nat.reduceSub]))))
local macro_rules | `(tactic| array_mem_dec) => `(tactic| ((conv => whnf); (repeat (first | ((with_reducible refine if_nT ?_); conv => whnf) | ((with_reducible refine if_T ?_); conv => whnf) | ((with_reducible refine if_nT2 ?_); conv => whnf) | ((with_reducible refine if_nF ?_); conv => whnf) | ((with_reducible refine if_yes ?_); conv => whnf) | ((with_reducible refine if_no ?_); conv => whnf) | ((with_reducible refine if_bT ?_); conv => whnf) | ((with_reducible refine if_bF ?_); conv => whnf) | (focus ((with_reducible refine if_dec ?_ ?_); rotate_left; (intro c; exact absurd (by first | (with_reducible rfl) | omega) c); intro _; conv => whnf)) | (focus ((with_reducible refine if_dec ?_ ?_); (intro c; exact absurd c (by omega)); intro _; conv => whnf)) | (focus ((with_reducible refine if_ndec ?_ ?_); rotate_left; (intro c; exact absurd c (by omega)); intro _; conv => whnf)) | (focus ((with_reducible refine if_ndec ?_ ?_); (intro c; exact absurd (by first | (with_reducible rfl) | omega) c); intro _; conv => whnf)) | (focus ((with_reducible refine if_eqi ?_ ?_); rotate_left; (intro c; exact absurd (by first | (with_reducible rfl) | omega) c); intro _; conv => whnf)) | (focus ((with_reducible refine if_eqi ?_ ?_); (intro c; exact absurd c (by omega)); intro _; conv => whnf)) | (focus ((with_reducible refine if_nei ?_ ?_); rotate_left; (intro c; exact absurd c (by omega)); intro _; conv => whnf)) | (focus ((with_reducible refine if_nei ?_ ?_); (intro c; exact absurd (by first | (with_reducible rfl) | omega) c); intro _; conv => whnf)) | (refine And.intro (by first | exact trivial | assumption | exact rfl | (with_reducible exact And.intro (by first | assumption | exact shp_int _ | exact shp_tI _ | exact shp_lI _) (by first | assumption | exact shp_int _ | exact shp_tnil | exact shp_nil | exact shp_tI _ | exact shp_lI _)) | (with_reducible exact RcOk.mk6 (by decide) (by decide) (by decide) (by omega) (by omega) (by omega) (by omega)) | decide | omega | (simp only [List.length_map, List.length_append, List.length_reverse, List.length_replicate, List.length_cons, List.length_nil, List.length_set, List.length_range]; omega)) ?_; conv => whnf) | simp only [List.set_cons_zero, List.set_cons_succ, List.length_cons, List.length_nil, List.length_map, List.cons_append, List.nil_append, List.replicate_succ, List.replicate_zero, Nat.reduceAdd, Nat.reduceSub, wipeR, resR, List.getElem?_cons_zero, List.getElem?_cons_succ]))))
def sk01 (sk : Bool) : Int := if sk = true then 1 else 0
theorem due_at (B : List (List Int)) (sk : Bool) : atI [cutD' (cutO false B), cutD' (cutO true B), blkD' (blkO B)] (sk01 sk) = some (cutD' (cutO sk B)) := by cases sk <;> exact atI_int (by decide) rfl
theorem bar_at {B : List (List Int)} {k : Nat} {b : List Int} (h : B[k]? = some b) : atI (B.map tupD) (k : Int) = some (.tuple (b.map PyData.int)) := atI_int (by omega) (by rw [Int.toNat_natCast, List.getElem?_map, h]; rfl)
theorem nn_eqv : PyData.eqv (.list [.none, .none]) (.list [.none, .none]) = true := by decide +kernel
theorem nn_shp : Shp (.list [.none, .none]) := (Fit.list (b := 10) (k := 1) (b' := 100) (k' := 2) (fun d hd => by
  rcases List.mem_cons.mp hd with rfl | hd
  · exact .none
  · rw [List.mem_singleton.mp hd]; exact .none) (by decide) (by decide)).shp (by decide)
theorem sum_few : ∀ (L : List (List Int)) (n : Nat), (∀ q ∈ L, q.length ≤ n) → (L.map List.length).sum ≤ n * L.length
  | [], n, _ => Nat.zero_le _
  | q :: L, n, h => by
    have := sum_few L n fun q hq => h q (List.mem_cons_of_mem _ hq)
    have h0 := h q List.mem_cons_self
    rw [List.map_cons, List.sum_cons, List.length_cons, Nat.mul_succ]
    omega
def prF (i : Nat) (inner : List Int) : D → D
  | .int t => if t = (i : Int) then tupD inner else tupD [0]
  | d => d
theorem pr_all (i n : Nat) (inner : List Int) : (((List.range n).map Int.ofNat).map PyData.int).map (prF i inner) = ((List.range n).map fun t => if t = i then inner else [0]).map tupD := by
  rw [List.map_map, List.map_map, List.map_map]
  refine List.map_congr_left fun t _ => ?_
  show (if (t : Int) = (i : Int) then tupD inner else tupD [0]) = tupD (if t = i then inner else [0])
  by_cases c : t = i
  · rw [if_pos c, if_pos (by omega)]
  · rw [if_neg c, if_neg (by omega)]
def noF : D → D := fun _ => .none
section
variable {P : Po} {B : List (List Int)} {a o : List Int}
theorem tp_ok (sk : Bool) (hB : BarsI B) (ha : IsRow a) (ho : IsRow o) (la : a.length ≤ 4) (lo : o.length ≤ 4) (na : ∀ b ∈ B, ¬ Wn b a) (no : ∀ b ∈ B, ¬ Wn b o) (x6 x7 x8 x9 x10 x11 x12 x13 x14 x15 : Sl)
    (h : ∀ x6 x7 x8 x9, P.nx [.pot, .im (.tuple (B.map tupD)), .im (dueD B), .im (.tuple (a.map PyData.int)), .im (.tuple (o.map PyData.int)), .im (.int (sk01 sk)), x6, x7, x8, x9, x10, x11, x12, x13, x14, x15]) :
    TP P [.pot, .im (.tuple (B.map tupD)), .im (dueD B), .im (.tuple (a.map PyData.int)), .im (.tuple (o.map PyData.int)), .im (.int (sk01 sk)), x6, x7, x8, x9, x10, x11, x12, x13, x14, x15] := by
  have hd := due_at B sk
  have esk : PyData.eqv (.int (sk01 sk)) (.int 1) = sk := by cases sk <;> rfl
  unfold dueD at h
  unfold TP dueD
  generalize [cutD' (cutO false B), cutD' (cutO true B), blkD' (blkO B)] = DL at hd h ⊢
  cases e : cutO sk B with
  | none =>
    rw [e] at hd
    have hd : atI DL (sk01 sk) = some .none := hd
    array_get_dec
    rw [hd]
    array_get_dec
    rw [hid_eq, esk]
    array_get_dec
    refine put_ok (by omega) (by omega) fun ρ => ?_
    array_get_dec
    refine barred_none_ok hB (put_row ha ho) (by rw [put_len]; omega) (put_out hB e ha ho na no) fun ρ => ?_
    array_get_dec
    rw [hd]
    array_get_dec
    exact h _ _ _ _
  | some kc =>
    obtain ⟨k, c⟩ := kc
    obtain ⟨b, hk, hb, c1, c2, n1, n2, r1, r2, o1, o2, ep⟩ := cut_is hB e
    obtain ⟨b1, b2, b3⟩ := hB.row b hb
    rw [e] at hd
    have hd : atI DL (sk01 sk) = some (.tuple [.int (k : Nat), .int (c : Nat)]) := hd
    have ba := bar_at hk
    have lt : (b.take c).length ≤ 5 := Nat.le_trans (List.length_take_le _ _) (by omega)
    have ld : (b.drop c).length ≤ 5 := by rw [List.length_drop]; omega
    array_get_dec
    rw [hd]
    array_get_dec
    rw [hd]
    array_get_dec
    rw [hd]
    array_get_dec
    rw [ba]
    array_get_dec
    rw [hd]
    array_get_dec
    rw [cutD_tk, ← List.map_take]
    refine own_like_okT (by omega) fun ρ => ?_
    array_get_dec
    rw [cutD_dr, ← List.map_drop]
    refine own_like_okT (by omega) fun ρ => ?_
    have k1 := likeI_len (b.take c)
    have k2 := likeI_len (b.drop c)
    generalize likeI (b.take c) = p at r1 o1 ep k1 ⊢
    generalize likeI (b.drop c) = q at r2 o2 ep k2 ⊢
    array_get_dec
    refine wCmp_map [.tuple (p.map PyData.int), .tuple (q.map PyData.int)] noF (Nat.le_of_ble_eq_true rfl) (fun d N M hd hN => ?_) fun ρ' hw => ?_
    · rcases List.mem_cons.mp hd with rfl | hd
      · array_get_dec
        refine barred_none_ok hB r1 (by omega) o1 fun ρ => ?_
        array_get_dec
        exact hN _ rfl
      · rw [List.mem_singleton.mp hd]
        array_get_dec
        refine barred_none_ok hB r2 (by omega) o2 fun ρ => ?_
        array_get_dec
        exact hN _ rfl
    rw [hw]
    array_mem_dec
    rw [show List.map noF [PyData.tuple (p.map PyData.int), PyData.tuple (q.map PyData.int)] = [.none, .none] from rfl, nn_eqv]
    refine ⟨⟨nn_shp, nn_shp⟩, ?_⟩
    refine if_hid (fun c => absurd c (by decide)) fun _ => ?_
    array_get_dec
    rw [hid_eq, esk]
    refine put_ok (by omega) (by omega) fun ρ => ?_
    rw [ep]
    array_get_dec
    rw [eqv_tI]
    refine if_ndec (fun c => absurd rfl c) fun _ => ?_
    array_get_dec
    exact h _ _ _ _
theorem tq_ok (hB : BarsI B) (x3 x4 x5 x6 x7 x8 x9 x10 x11 x12 x13 x14 x15 : Sl) (h : ∀ ρ, lv (.im (.bool true)) ρ P.rt) :
    TQ P [.pot, .im (.tuple (B.map tupD)), .im (dueD B), x3, x4, x5, x6, x7, x8, x9, x10, x11, x12, x13, x14, x15] := by
  have hd : atI [cutD' (cutO false B), cutD' (cutO true B), blkD' (blkO B)] 2 = some (blkD' (blkO B)) := atI_int (by decide) rfl
  unfold TQ dueD
  generalize [cutD' (cutO false B), cutD' (cutO true B), blkD' (blkO B)] = DL at hd ⊢
  array_get_dec
  refine member_ok hB (by decide) (by decide) fun r ρ hr hl hn => ?_
  array_get_dec
  rw [hd]
  cases e : blkO B with
  | none =>
    array_get_dec
    refine wCmp_inv _ (fun i acc ρ' => ∃ L : List (List Int), acc = L.map tupD ∧ L.length = i ∧ (∀ q ∈ L, IsRow q ∧ q.length ≤ 3 ∧ ∀ b ∈ B, ¬ Wn b q) ∧ wipeR [11] ρ' = wipeR [11] [.pot, .im (.tuple (B.map tupD)), .im (.list DL), x3, x4, x5, x6, x7, x8, x9, .im (.tuple (r.map PyData.int)), x11, x12, x13, x14, x15]) ⟨[], rfl, rfl, (fun q h => nomatch h), rfl⟩ (fun i d acc ρ M he ⟨L, ha, hL, hq, hw⟩ hM => ?_) fun acc ρ ⟨L, ha, hL, hq, hw⟩ => ?_
    · have hi := (List.getElem?_eq_some_iff.mp he).1
      rw [List.length_map] at hi
      have hal : acc.length < 100000 := by rw [ha, List.length_map]; omega
      rw [hw]
      array_get_dec
      refine member_ok hB (by decide) (by decide) fun q ρ q1 q2 q3 => ?_
      array_get_dec
      refine hM _ _ ⟨L ++ [q], by rw [ha, List.map_append]; rfl, by rw [List.length_append, hL]; rfl, fun z hz => ?_, rfl⟩
      rcases List.mem_append.mp hz with hz | hz
      · exact hq z hz
      · rw [List.mem_singleton.mp hz]
        exact ⟨q1, by omega, q3⟩
    · rw [List.length_map] at hL
      have hs := sum_few L 3 fun q h => (hq q h).2.1
      have hfl := fill_len r L
      rw [hw, ha]
      array_mem_dec
      refine filled_ok hr (by omega) hL (fun q h => by have := (hq q h).2.1; omega) fun ρ => ?_
      array_get_dec
      refine barred_none_ok hB (fill_row hr hL fun q h => (hq q h).1) (by omega) (fun b hb z => ?_) fun ρ => ?_
      · rcases fill_wn hr hL (fun q h => (hq q h).1) (hB.row b hb).1 (no_blk hB e hb) z with y | ⟨q, hq2, y⟩
        · exact hn b hb y
        · exact (hq q hq2).2.2 b hb y
      · array_get_dec
        exact h _
  | some kij =>
    obtain ⟨k, i, j⟩ := kij
    obtain ⟨b, hk, hb, i1, j1, ji, n1, n2, r1, r2, o1, o2, ep⟩ := blk_is hB e
    obtain ⟨b1, b2, b3⟩ := hB.row b hb
    have ba := bar_at hk
    have hd2 : atI DL 2 = some (.tuple [.int (k : Nat), .tuple [.int (i : Nat), .int (j : Nat)]]) := by rw [hd, e]; rfl
    have lt : (b.take (i + 1)).length ≤ 5 := Nat.le_trans (List.length_take_le _ _) (by omega)
    have ld : (b.drop j).length ≤ 5 := by rw [List.length_drop]; omega
    have lm : (midI b i j).length ≤ 5 := by unfold midI; rw [List.length_drop, List.length_take]; omega
    have em := cutD_mid (b.map PyData.int) i j (by omega) (by rw [List.length_map]; exact j1)
    rw [← List.map_take, ← List.map_drop, show (b.take j).drop i = midI b i j from rfl] at em
    have k1 := likeI_len (b.take (i + 1) ++ b.drop j)
    have k2 := likeI_len (midI b i j)
    have k3 : (b.take (i + 1) ++ b.drop j).length ≤ 5 := by rw [List.length_append, List.length_take, List.length_drop]; omega
    dsimp only [blkD']
    array_get_dec
    rw [hd2]
    array_get_dec
    rw [ba]
    array_get_dec
    rw [hd2]
    array_get_dec
    rw [show (i : Int) + 1 = ((i + 1 : Nat) : Int) from rfl, cutD_tk, ← List.map_take]
    array_get_dec
    rw [cutD_dr, ← List.map_drop]
    array_get_dec
    rw [← List.map_append]
    refine own_like_okT (by omega) fun ρ => ?_
    array_get_dec
    rw [em]
    refine own_like_okT (by omega) fun ρ => ?_
    generalize likeI (b.take (i + 1) ++ b.drop j) = outer at r1 o1 ep k1 ⊢
    generalize likeI (midI b i j) = inner at r2 o2 ep k2 ⊢
    array_get_dec
    rw [rangeD_zero]
    refine wCmp_map _ (prF i inner) (by rw [List.length_map, List.length_map, List.length_range]; omega) (fun d N M hd hN => ?_) fun ρ' hw => ?_
    · obtain ⟨t0, ht, rfl⟩ := List.mem_map.mp hd
      obtain ⟨t, ht, rfl⟩ := List.mem_map.mp ht
      rw [show Int.ofNat t = (t : Int) from rfl] at hN ⊢
      rw [show prF i inner (.int (t : Int)) = if (t : Int) = (i : Int) then tupD inner else tupD [0] from rfl] at hN
      array_get_dec
      refine if_eqi (fun c => ?_) fun c => ?_
      · rw [if_pos c] at hN
        array_get_dec
        exact hN _ rfl
      · rw [if_neg c] at hN
        array_get_dec
        exact hN _ rfl
    rw [hw, pr_all]
    generalize hPa : ((List.range outer.length).map fun t => if t = i then inner else [0]) = parts at ep ⊢
    have pl : parts.length = outer.length := by rw [← hPa, List.length_map, List.length_range]
    have pq : ∀ q ∈ parts, q.length ≤ 5 := fun q hq => by
      rw [← hPa] at hq
      obtain ⟨t, _, rfl⟩ := List.mem_map.mp hq
      split
      · omega
      · show 1 ≤ 5; decide
    array_mem_dec
    refine barred_none_ok hB r1 (by omega) o1 fun ρ => ?_
    array_get_dec
    refine barred_none_ok hB r2 (by omega) o2 fun ρ => ?_
    array_get_dec
    refine ⟨⟨nn_shp, nn_shp⟩, ?_⟩
    rw [nn_eqv]
    refine if_hid (fun _ => ?_) fun c => absurd c (by decide)
    array_get_dec
    refine filled_ok r1 (by omega) pl pq fun ρ => ?_
    rw [ep]
    array_get_dec
    rw [hid_eq, eqv_tI, decide_eq_true rfl]
    exact h _
end
end Tr

namespace Tr
open PySem L2
local macro_rules | `(tactic| array_get_dec) => `(tactic| ((conv => whnf); (repeat (first | ((with_reducible refine if_nT ?_); conv => whnf) | ((with_reducible refine if_T ?_); conv => whnf) | ((with_reducible refine if_nT2 ?_); conv => whnf) | ((with_reducible refine if_nF ?_); conv => whnf) | ((with_reducible refine if_yes ?_); conv => whnf) | ((with_reducible refine if_no ?_); conv => whnf) | ((with_reducible refine if_bT ?_); conv => whnf) | ((with_reducible refine if_bF ?_); conv => whnf) | (focus ((with_reducible refine if_dec ?_ ?_); rotate_left; (intro c; exact absurd (by first | (with_reducible rfl) | omega) c); intro _; conv => whnf)) | (focus ((with_reducible refine if_dec ?_ ?_); (intro c; exact absurd c (by omega)); intro _; conv => whnf)) | (focus ((with_reducible refine if_ndec ?_ ?_); rotate_left; (intro c; exact absurd c (by omega)); intro _; conv => whnf)) | (focus ((with_reducible refine if_ndec ?_ ?_); (intro c; exact absurd (by first | (with_reducible rfl) | omega) c); intro _; conv => whnf)) | (focus ((with_reducible refine if_eqi ?_ ?_); rotate_left; (intro c; exact absurd (by first | (with_reducible rfl) | omega) c); intro _; conv => whnf)) | (focus ((with_reducible refine if_eqi ?_ ?_); (intro c; exact absurd c (by omega)); intro _; conv => whnf)) | (focus ((with_reducible refine if_nei ?_ ?_); rotate_left; (intro c; exact absurd c (by omega)); intro _; conv => whnf)) | (focus ((with_reducible refine if_nei ?_ ?_); (intro c; exact absurd (by first | (with_reducible rfl) | omega) c); intro _; conv => whnf)) | (refine And.intro (by first | exact trivial | assumption | exact rfl | (with_reducible exact And.intro (by first | assumption | exact shp_int _ | exact shp_tI _ | exact shp_lI _) (by first | assumption | exact shp_int _ | exact shp_tnil | exact shp_nil | exact shp_tI _ | exact shp_lI _)) | (with_reducible exact RcOk.mk6 (by decide) (by decide) (by decide) (by omega) (by omega) (by omega) (by omega)) | decide | omega | (simp only [List.length_map, List.length_append, List.length_reverse, List.length_replicate, List.length_cons, List.length_nil, List.length_set, List.length_range]; omega)) ?_; conv => whnf) | simp only [List.set_cons_zero, List.set_cons_succ, List.length_cons, List.length_nil, List.length_map, List.cons_append, List.nil_append, List.replicate_succ, List.replicate_zero, Nat.reduceAdd, Nat.reduceSub]))))
section
variable {Qd : R → Rn → Prop} {Qx : Xn → Prop} {B : List (List Int)}
theorem are_closed_ok (hB : BarsI B) (h : ∀ ρ, Qd (.im (.bool true)) ρ) : fnW 16 w_u_law_are_closed [.pot, .im (.tuple (B.map tupD)), .im (dueD B)] Qd Qx := by
  refine fnW.mk ?_
  unfold w_u_law_are_closed
  generalize eQ : wSeq (wSet 10 _) _ = Q
  have hQ : ∀ {P : Po} (x3 x4 x5 x6 x7 x8 x9 x10 x11 x12 x13 x14 x15 : Sl), (∀ ρ, lv (.im (.bool true)) ρ P.rt) → Q P [.pot, .im (.tuple (B.map tupD)), .im (dueD B), x3, x4, x5, x6, x7, x8, x9, x10, x11, x12, x13, x14, x15] := fun x3 x4 x5 x6 x7 x8 x9 x10 x11 x12 x13 x14 x15 ht => by
    rw [← eQ]
    exact tq_ok hB _ _ _ _ _ _ _ _ _ _ _ _ _ ht
  clear eQ
  generalize eT : wSeq (wIfS (wAnd _ _) _ _) _ = T
  have hT : ∀ {P : Po} (sk : Bool) (a o : List Int), IsRow a → IsRow o → a.length ≤ 4 → o.length ≤ 4 → (∀ b ∈ B, ¬ Wn b a) → (∀ b ∈ B, ¬ Wn b o) → ∀ (x6 x7 x8 x9 x10 x11 x12 x13 x14 x15 : Sl),
      (∀ x6 x7 x8 x9, P.nx [.pot, .im (.tuple (B.map tupD)), .im (dueD B), .im (.tuple (a.map PyData.int)), .im (.tuple (o.map PyData.int)), .im (.int (sk01 sk)), x6, x7, x8, x9, x10, x11, x12, x13, x14, x15]) →
      T P [.pot, .im (.tuple (B.map tupD)), .im (dueD B), .im (.tuple (a.map PyData.int)), .im (.tuple (o.map PyData.int)), .im (.int (sk01 sk)), x6, x7, x8, x9, x10, x11, x12, x13, x14, x15] := fun sk a o ha ho la lo na no x6 x7 x8 x9 x10 x11 x12 x13 x14 x15 hN => by
    rw [← eT]
    exact tp_ok sk hB ha ho la lo na no _ _ _ _ _ _ _ _ _ _ hN
  clear eT
  generalize hD : dueD B = DD at hQ hT ⊢
  array_get_dec
  refine member_ok hB (by decide) (by decide) fun a ρ a1 a2 a3 => ?_
  array_get_dec
  refine member_ok hB (by decide) (by decide) fun o ρ o1 o2 o3 => ?_
  array_get_dec
  refine wLoop_inv _ (fun i ρ => ∃ x5 x6 x7 x8 x9, ρ = [.pot, .im (.tuple (B.map tupD)), .im DD, .im (.tuple (a.map PyData.int)), .im (.tuple (o.map PyData.int)), x5, x6, x7, x8, x9, .no, .no, .no, .no, .no, .no]) ⟨_, _, _, _, _, rfl⟩ (fun i d ρ N he ⟨x5, x6, x7, x8, x9, e⟩ hN => ?_) fun ρ ⟨x5, x6, x7, x8, x9, e⟩ => ?_
  · subst e
    obtain ⟨sk, rfl⟩ : ∃ sk : Bool, d = .int (sk01 sk) := by
      rcases List.mem_cons.mp (List.mem_of_getElem? he) with rfl | hd
      · exact ⟨false, rfl⟩
      · rw [List.mem_singleton.mp hd]; exact ⟨true, rfl⟩
    array_get_dec
    exact hT sk a o a1 o1 (by omega) (by omega) a3 o3 _ _ _ _ _ _ _ _ _ _ fun x6 x7 x8 x9 => hN _ ⟨_, _, _, _, _, rfl⟩
  · subst e
    exact hQ _ _ _ _ _ _ _ _ _ _ _ _ _ h
end
end Tr

namespace Tr
open PySem L2
local macro_rules | `(tactic| bv_omega) => `(tactic| ((conv => whnf); (repeat (first | (refine if_yes ?_; conv => whnf) | (refine if_no ?_; conv => whnf) | (refine And.intro (by first | exact trivial | assumption | exact rfl | decide | omega | (simp only [List.length_map, List.length_append, List.length_reverse, List.length_replicate, List.length_cons, List.length_nil, List.length_set, List.length_range]; omega)) ?_; conv => whnf))); (try simp only [List.set_cons_zero, List.set_cons_succ, List.length_cons, List.length_nil, List.length_map, List.cons_append, List.nil_append, List.replicate_succ, List.replicate_zero, Nat.reduceAdd, Nat.reduceSub])))
local macro_rules | `(tactic| array_get_dec) => `(tactic| ((conv => whnf); (repeat (first | ((with_reducible refine if_nT ?_); conv => whnf) | ((with_reducible refine if_T ?_); conv => whnf) | ((with_reducible refine if_nT2 ?_); conv => whnf) | ((with_reducible refine if_nF ?_); conv => whnf) | ((with_reducible refine if_yes ?_); conv => whnf) | ((with_reducible refine if_no ?_); conv => whnf) | ((with_reducible refine if_bT ?_); conv => whnf) | ((with_reducible refine if_bF ?_); conv => whnf) | (focus ((with_reducible refine if_dec ?_ ?_); rotate_left; (intro c; exact absurd (by first | (with_reducible rfl) | omega) c); intro _; conv => whnf)) | (focus ((with_reducible refine if_dec ?_ ?_); (intro c; exact absurd c (by omega)); intro _; conv => whnf)) | (focus ((with_reducible refine if_ndec ?_ ?_); rotate_left; (intro c; exact absurd c (by omega)); intro _; conv => whnf)) | (focus ((with_reducible refine if_ndec ?_ ?_); (intro c; exact absurd (by first | (with_reducible rfl) | omega) c); intro _; conv => whnf)) | (focus ((with_reducible refine if_eqi ?_ ?_); rotate_left; (intro c; exact absurd (by first | (with_reducible rfl) | omega) c); intro _; conv => whnf)) | (focus ((with_reducible refine if_eqi ?_ ?_); (intro c; exact absurd c (by omega)); intro _; conv => whnf)) | (focus ((with_reducible refine if_nei ?_ ?_); rotate_left; (intro c; exact absurd c (by omega)); intro _; conv => whnf)) | (focus ((with_reducible refine if_nei ?_ ?_); (intro c; exact absurd (by first | (with_reducible rfl) | omega) c); intro _; conv => whnf)) | (refine And.intro (by first | exact trivial | assumption | exact rfl | (with_reducible exact And.intro (by first | assumption | exact shp_int _ | exact shp_tI _ | exact shp_lI _) (by first | assumption | exact shp_int _ | exact shp_tnil | exact shp_nil | exact shp_tI _ | exact shp_lI _)) | (with_reducible exact RcOk.mk6 (by decide) (by decide) (by decide) (by omega) (by omega) (by omega) (by omega)) | decide | omega | (simp only [List.length_map, List.length_append, List.length_reverse, List.length_replicate, List.length_cons, List.length_nil, List.length_set, List.length_range]; omega)) ?_; conv => whnf) | simp only [List.set_cons_zero, List.set_cons_succ, List.length_cons, List.length_nil, List.length_map, List.cons_append, List.nil_append, List.replicate_succ, List.replicate_zero, Nat.reduceAdd, Nat.reduceSub]))))
local macro_rules | `(tactic| array_mem_dec) => `(tactic| ((conv => whnf); (repeat (first | ((with_reducible refine if_nT ?_); conv => whnf) | ((with_reducible refine if_T ?_); conv => whnf) | ((with_reducible refine if_nT2 ?_); conv => whnf) | ((with_reducible refine if_nF ?_); conv => whnf) | ((with_reducible refine if_yes ?_); conv => whnf) | ((with_reducible refine if_no ?_); conv => whnf) | ((with_reducible refine if_bT ?_); conv => whnf) | ((with_reducible refine if_bF ?_); conv => whnf) | (focus ((with_reducible refine if_dec ?_ ?_); rotate_left; (intro c; exact absurd (by first | (with_reducible rfl) | omega) c); intro _; conv => whnf)) | (focus ((with_reducible refine if_dec ?_ ?_); (intro c; exact absurd c (by omega)); intro _; conv => whnf)) | (focus ((with_reducible refine if_ndec ?_ ?_); rotate_left; (intro c; exact absurd c (by omega)); intro _; conv => whnf)) | (focus ((with_reducible refine if_ndec ?_ ?_); (intro c; exact absurd (by first | (with_reducible rfl) | omega) c); intro _; conv => whnf)) | (focus ((with_reducible refine if_eqi ?_ ?_); rotate_left; (intro c; exact absurd (by first | (with_reducible rfl) | omega) c); intro _; conv => whnf)) | (focus ((with_reducible refine if_eqi ?_ ?_); (intro c; exact absurd c (by omega)); intro _; conv => whnf)) | (focus ((with_reducible refine if_nei ?_ ?_); rotate_left; (intro c; exact absurd c (by omega)); intro _; conv => whnf)) | (focus ((with_reducible refine if_nei ?_ ?_); (intro c; exact absurd (by first | (with_reducible rfl) | omega) c); intro _; conv => whnf)) | (refine And.intro (by first | exact trivial | assumption | exact rfl | (with_reducible exact And.intro (by first | assumption | exact shp_int _ | exact shp_tI _ | exact shp_lI _) (by first | assumption | exact shp_int _ | exact shp_tnil | exact shp_nil | exact shp_tI _ | exact shp_lI _)) | (with_reducible exact RcOk.mk6 (by decide) (by decide) (by decide) (by omega) (by omega) (by omega) (by omega)) | decide | omega | (simp only [List.length_map, List.length_append, List.length_reverse, List.length_replicate, List.length_cons, List.length_nil, List.length_set, List.length_range]; omega)) ?_; conv => whnf) | simp only [List.set_cons_zero, List.set_cons_succ, List.length_cons, List.length_nil, List.length_map, List.cons_append, List.nil_append, List.replicate_succ, List.replicate_zero, Nat.reduceAdd, Nat.reduceSub, wipeR, resR, List.getElem?_cons_zero, List.getElem?_cons_succ]))))
def TA : WS := wSeq (wPar 6 7 (wA (vA1 gRepr) (wCons (wV 3) (wN))) (wA fLst (wCons (wCallL 7 2 w_u_law_cut (wCons (wV 3) (wCons (wC (.bool false)) (wN)))) (wCons (wCallL 7 2 w_u_law_cut (wCons (wV 3) (wCons (wC (.bool true)) (wN)))) (wCons (wCallL 5 1 w_u_law_block (wCons (wV 3) (wN))) (wN)))))) (wSeq (wSet 8 (wA fLst (wCons (wCallL 4 1 w_sum_bar (wCons (wV 3) (wN))) (wCons (wCallL 4 1 w_skew_bar (wCons (wV 3) (wN))) (wCons (wCallL 6 1 w_block_bar (wCons (wV 3) (wN))) (wN)))))) (wSeq (wSet 9 (wA fLst (wCons (wCallL 4 1 w_sum_bar (wBackA (wCons (wV 3) (wN)))) (wCons (wCallL 4 1 w_skew_bar (wBackA (wCons (wV 3) (wN)))) (wCons (wCallL 6 1 w_block_bar (wBackA (wCons (wV 3) (wN)))) (wN)))))) (wIfS (wOr (wT (w2 (v2 gNe) (wA (vA1 gRepr) (wCons (wA fLst (wCons (wV 8) (wCons (wV 9) (wN)))) (wN))) (wA (vA1 gRepr) (wCons (wA fLst (wCons (wV 7) (wCons (wV 7) (wN)))) (wN))))) (wOr (wNot (wT (wCallL 16 3 w_u_law_are_closed (wCons (wV 1) (wCons (wV 3) (wCons (wV 7) (wN))))))) (wT (w2 (v2 gNe) (wA (vA1 gRepr) (wCons (wV 3) (wN))) (wV 6))))) (wRet (wC (.bool false))) (wNil))))
theorem row_fit {p : List Int} (hp : IsRow p) (hl : p.length ≤ 45) : Fit 100 1 (.tuple (p.map PyData.int)) := Fit.tI (fun x hx => by
  have b := hp.mem.mp hx
  have e : (10 : Nat) ^ 30 = 1000000000000000000000000000000 := by decide
  omega) (by omega) (by decide)
theorem fit_two {b k b' k' : Nat} {x y : D} (h1 : Fit b k x) (h2 : Fit b k y) (hb : 2 * (b + 1) ≤ b') (hk : k < k') : Fit b' k' (.tuple [x, y]) := Fit.tuple (b := b) (k := k) (fun d hd => by
  rcases List.mem_cons.mp hd with rfl | hd
  · exact h1
  · rw [List.mem_singleton.mp hd]; exact h2) hb hk
theorem fit_n {b k n : Nat} (h : n ≤ 1000) : Fit b k (.int (n : Nat)) := .int (by
  have e : (10 : Nat) ^ 30 = 1000000000000000000000000000000 := by decide
  show ((n : Nat) : Int).natAbs < _
  omega)
theorem fit_cut {B : List (List Int)} (hB : BarsI B) (sk : Bool) : Fit 300 3 (cutD' (cutO sk B)) := by
  cases e : cutO sk B with
  | none => exact .none
  | some kc =>
    obtain ⟨k, c⟩ := kc
    obtain ⟨b, hk, hb, c1, c2, _⟩ := cut_is hB e
    have := (List.getElem?_eq_some_iff.mp hk).1
    have := hB.few
    have := (hB.row b hb).2.2
    exact fit_two (b := 10) (k := 1) (fit_n (by omega)) (fit_n (by omega)) (by decide) (by decide)
theorem fit_blk {B : List (List Int)} (hB : BarsI B) : Fit 300 3 (blkD' (blkO B)) := by
  cases e : blkO B with
  | none => exact .none
  | some kij =>
    obtain ⟨k, i, j⟩ := kij
    obtain ⟨b, hk, hb, c1, c2, _⟩ := blk_is hB e
    have := (List.getElem?_eq_some_iff.mp hk).1
    have := hB.few
    have := (hB.row b hb).2.2
    exact fit_two (b := 100) (k := 2) (fit_n (by omega)) (fit_two (b := 10) (k := 1) (fit_n (by omega)) (fit_n (by omega)) (by decide) (by decide)) (by decide) (by decide)
section
variable {P : Po} {B : List (List Int)}
theorem ta_ok (hB : BarsI B) (x0 x2 x4 x5 x6 x7 x8 x9 : Sl) (h : ∀ x6 x7 x8 x9, P.nx [x0, .pot, x2, .im (.tuple (B.map tupD)), x4, x5, x6, x7, x8, x9]) : TA P [x0, .pot, x2, .im (.tuple (B.map tupD)), x4, x5, x6, x7, x8, x9] := by
  have hcl : ∀ {Qd : R → Rn → Prop} {Qx : Xn → Prop}, (∀ ρ, Qd (.im (.bool true)) ρ) → fnW 16 w_u_law_are_closed [.pot, .im (.tuple (B.map tupD)), .im (.list [cutD' (cutO false B), cutD' (cutO true B), blkD' (blkO B)])] Qd Qx := fun h => are_closed_ok hB h
  have h1 : ∀ {Qd : R → Rn → Prop} {Qx : Xn → Prop}, (∀ ρ, Qd (.im (cutD' (cutO false B))) ρ) → fnW 4 w_sum_bar [.im (.tuple (B.map tupD))] Qd Qx := fun h => sum_bar_ok hB h
  have h2 : ∀ {Qd : R → Rn → Prop} {Qx : Xn → Prop}, (∀ ρ, Qd (.im (cutD' (cutO true B))) ρ) → fnW 4 w_skew_bar [.im (.tuple (B.map tupD))] Qd Qx := fun h => skew_bar_ok hB h
  have h3 : ∀ {Qd : R → Rn → Prop} {Qx : Xn → Prop}, (∀ ρ, Qd (.im (blkD' (blkO B))) ρ) → fnW 6 w_block_bar [.im (.tuple (B.map tupD))] Qd Qx := fun h => block_bar_ok hB h
  have h4 : ∀ {Qd : R → Rn → Prop} {Qx : Xn → Prop}, (∀ ρ, Qd (.im (cutD' (cutO false B))) ρ) → fnW 7 w_u_law_cut [.im (.tuple (B.map tupD)), .im (.bool false)] Qd Qx := fun h => own_cut_ok hB h
  have h5 : ∀ {Qd : R → Rn → Prop} {Qx : Xn → Prop}, (∀ ρ, Qd (.im (cutD' (cutO true B))) ρ) → fnW 7 w_u_law_cut [.im (.tuple (B.map tupD)), .im (.bool true)] Qd Qx := fun h => own_cut_ok hB h
  have h6 : ∀ {Qd : R → Rn → Prop} {Qx : Xn → Prop}, (∀ ρ, Qd (.im (blkD' (blkO B))) ρ) → fnW 5 w_u_law_block [.im (.tuple (B.map tupD))] Qd Qx := fun h => u_law_block_ok hB h
  have fB : Fit 2000 3 (.tuple (B.map tupD)) := Fit.tuple (b := 100) (k := 1) (fun d hd => by
    obtain ⟨b, hb, rfl⟩ := List.mem_map.mp hd
    exact row_fit (hB.row b hb).1 (by have := (hB.row b hb).2.2; omega)) (by rw [List.length_map]; have := hB.few; omega) (by decide)
  have rB : Rpr (.tuple (B.map tupD)) := fB.rpr (by decide) (by decide)
  have f1 := fit_cut hB false
  have f2 := fit_cut hB true
  have f3 := fit_blk hB
  generalize cutD' (cutO false B) = c1 at *
  generalize cutD' (cutO true B) = c2 at *
  generalize blkD' (blkO B) = c3 at *
  have f4 : Fit 1000 4 (.list [c1, c2, c3]) := Fit.list (b := 300) (k := 3) (fun d hd => by
    rcases List.mem_cons.mp hd with rfl | hd
    · exact f1
    rcases List.mem_cons.mp hd with rfl | hd
    · exact f2
    · rw [List.mem_singleton.mp hd]; exact f3) (Nat.le_of_ble_eq_true rfl) (by decide)
  have r4 : Rpr (.list [.list [c1, c2, c3], .list [c1, c2, c3]]) := (Fit.list (b := 1000) (k := 4) (b' := 2500) (k' := 5) (fun d hd => by
    rcases List.mem_cons.mp hd with rfl | hd
    · exact f4
    · rw [List.mem_singleton.mp hd]; exact f4) (Nat.le_of_ble_eq_true rfl) (by decide)).rpr (by decide) (by decide)
  clear fB f1 f2 f3 f4
  generalize B.map tupD = D0 at *
  unfold TA
  array_get_dec
  refine h4 fun ρ => ?_
  array_get_dec
  refine h5 fun ρ => ?_
  array_get_dec
  refine h6 fun ρ => ?_
  array_get_dec
  refine h1 fun ρ => ?_
  array_get_dec
  refine h2 fun ρ => ?_
  array_get_dec
  refine h3 fun ρ => ?_
  array_get_dec
  refine h1 fun ρ => ?_
  array_get_dec
  refine h2 fun ρ => ?_
  array_get_dec
  refine h3 fun ρ => ?_
  array_get_dec
  refine hcl fun ρ => ?_
  array_get_dec
  exact h _ _ _ _
end
theorem math0 : ∀ ns : List Int, ns.length ≤ 63 → w_deck0 ⟨fun ρ => ρ.length = 4 ∧ ρ[0]? = some (.im (scrD ns)) ∧ ∃ m : Int, 0 ≤ m ∧ ρ[1]? = some (.own false (.d [(.inr "great", .list []), (.inr "mixed", .int m), (.inr "turns", .int 0)])), fun _ _ => False, fun _ => False, fun _ => False, fun _ => False⟩ (.im (scrD ns) :: List.replicate 3 .no) := fun ns hn => by
  bv_omega
  rw [scrOf_ints]
  bv_omega
  exact ⟨_, by omega, rfl⟩
theorem one_anti : ∀ B ∈ ([[[0]], [[0, 1]], [[1, 0]], [[0, 1], [1, 0]]] : List (List (List Int))), B.length ≤ 10 ∧ (∀ b ∈ B, List.isPerm b ((List.range b.length).map Int.ofNat) = true ∧ 1 ≤ b.length ∧ b.length ≤ 5) ∧ ∀ b ∈ B, ∀ d ∈ B, plc d b ≠ [] → b = d := by decide +kernel
theorem one_bars {B : List (List Int)} (h : B ∈ ([[[0]], [[0, 1]], [[1, 0]], [[0, 1], [1, 0]]] : List (List (List Int)))) : BarsI B := by
  obtain ⟨h1, h2, h3⟩ := one_anti B h
  exact ⟨h1, fun b hb => ⟨List.isPerm_iff.mp (h2 b hb).1, (h2 b hb).2⟩, h3⟩
theorem math1 : w_law lawP (potEnv 10 1) := by
  show w_law lawP [.no, .pot, .no, .no, .no, .no, .no, .no, .no, .no]
  unfold w_law
  generalize eA : wSeq (wPar 6 7 _ _) _ = A
  have hA : ∀ {P : Po} {B : List (List Int)}, BarsI B → ∀ (x0 x2 x4 x5 x6 x7 x8 x9 : Sl), (∀ x6 x7 x8 x9, P.nx [x0, .pot, x2, .im (.tuple (B.map tupD)), x4, x5, x6, x7, x8, x9]) → A P [x0, .pot, x2, .im (.tuple (B.map tupD)), x4, x5, x6, x7, x8, x9] := fun hB x0 x2 x4 x5 x6 x7 x8 x9 h => by
    rw [← eA]
    exact ta_ok hB _ _ _ _ _ _ _ _ h
  clear eA
  generalize eC : wSeq (wIfS (wT (w2 (v2 gEq) (wCallL 4 2 wOf (wCons (wV 1) (wCons (wC (.int 20)) wN))) _)) _ _) _ = C
  have hC : ∀ {P : Po} {B : List (List Int)}, BarsI B → ∀ (x0 x2 x4 x5 x6 x7 x8 x9 : Sl), (∀ (B : List (List Int)) x6 x7 x8 x9, P.nx [x0, .pot, x2, .im (.tuple (B.map tupD)), x4, x5, x6, x7, x8, x9]) → C P [x0, .pot, x2, .im (.tuple (B.map tupD)), x4, x5, x6, x7, x8, x9] := fun hB x0 x2 x4 x5 x6 x7 x8 x9 h => by
    rw [← eC]
    array_get_dec
    refine of_ok (by decide) fun a ha ρ => ?_
    array_get_dec
    refine if_eqi (fun c => ?_) fun c => ?_
    · array_get_dec
      refine pick_ok (Nat.le_of_ble_eq_true rfl) (Nat.le_of_ble_eq_true rfl) fun d hd ρ => ?_
      obtain ⟨B2, hB2, rfl⟩ : ∃ B2 : List (List Int), B2 ∈ ([[[0]], [[0, 1]], [[1, 0]], [[0, 1], [1, 0]]] : List (List (List Int))) ∧ d = .tuple (B2.map tupD) := by
        simp only [List.mem_cons, List.not_mem_nil, or_false] at hd
        rcases hd with rfl | rfl | rfl | rfl
        · exact ⟨[[0]], by decide, rfl⟩
        · exact ⟨[[0, 1]], by decide, rfl⟩
        · exact ⟨[[1, 0]], by decide, rfl⟩
        · exact ⟨[[0, 1], [1, 0]], by decide, rfl⟩
      array_get_dec
      exact hA (one_bars hB2) _ _ _ _ _ _ _ _ fun _ _ _ _ => h _ _ _ _ _
    · array_get_dec
      exact hA hB _ _ _ _ _ _ _ _ fun _ _ _ _ => h _ _ _ _ _
  clear eC
  array_get_dec
  refine wLoop_inv _ (fun i ρ => ∃ x0 x2 x3 x4 x5 x6 x7 x8 x9, ρ = [x0, .pot, x2, x3, x4, x5, x6, x7, x8, x9]) ⟨_, _, _, _, _, _, _, _, _, rfl⟩ (fun i d ρ N he ⟨x0, x2, x3, x4, x5, x6, x7, x8, x9, e⟩ hN => ?_) fun ρ ⟨x0, x2, x3, x4, x5, x6, x7, x8, x9, e⟩ => ?_
  · subst e
    have hN2 : ∀ x0 x2 x3 x4 x5 x6 x7 x8 x9, N [x0, .pot, x2, x3, x4, x5, x6, x7, x8, x9] := fun x0 x2 x3 x4 x5 x6 x7 x8 x9 => hN _ ⟨_, _, _, _, _, _, _, _, _, rfl⟩
    array_get_dec
    refine bars_ok fun B ρ hB => ?_
    array_get_dec
    refine of_ok (by decide) fun a ha ρ => ?_
    array_get_dec
    refine if_eqi (fun c => ?_) fun c => ?_
    · array_get_dec
      refine wCmp_inv _ (fun i acc ρ' => ∃ (L : List (List Int)) (x4 : Sl), acc = L.map tuI ∧ L.length = i ∧ (∀ q ∈ L, q ∈ poolI) ∧ (x4 = .own false (.l (poolI.map tupD)) ∨ x4 = .im (.list (poolI.map tupD))) ∧ wipeR [5] ρ' = wipeR [5] [x0, .pot, .im d, .im (.tuple (B.map tupD)), x4, x5, x6, x7, x8, x9]) ⟨[], _, rfl, rfl, (fun q h => nomatch h), .inl rfl, rfl⟩ (fun i d' acc ρ M he ⟨L, x4, ha, hL, hq, hx, hw⟩ hM => ?_) fun acc ρ ⟨L, x4, ha, hL, hq, hx, hw⟩ => ?_
      · have hi := (List.getElem?_eq_some_iff.mp he).1
        rw [rangeD_len] at hi
        have hal : acc.length < 100000 := by rw [ha, List.length_map]; omega
        rw [hw]
        rcases hx with rfl | rfl
        all_goals
          array_get_dec
          refine pick_ok (ds := poolI.map tupD) (by rw [List.length_map]; decide) (by rw [List.length_map]; decide) fun d2 hd2 ρ2 => ?_
          obtain ⟨q, hq2, rfl⟩ := List.mem_map.mp hd2
          rw [show tupD q = .tuple (q.map PyData.int) from rfl]
          array_get_dec
          refine hM _ _ ⟨L ++ [q], _, by rw [ha, List.map_append]; rfl, by rw [List.length_append, hL]; rfl, fun z hz => ?_, .inr rfl, rfl⟩
          rcases List.mem_append.mp hz with hz | hz
          · exact hq z hz
          · rw [List.mem_singleton.mp hz]; exact hq2
      · rw [rangeD_len] at hL
        match L, hL, hq, ha with
        | [a, b], _, hq, ha =>
          have hfin : ∀ {Qd : R → Rn → Prop} {Qx : Xn → Prop}, (∀ (B : List (List Int)) ρ, BarsI B → Qd (.im (.tuple (B.map tupD))) ρ) → fnW 4 w_u_law_least_rows [.im (.list ([a, b].map tuI))] Qd Qx := fun h => least_rows_ok (hq a List.mem_cons_self) (hq b (List.mem_cons_of_mem _ List.mem_cons_self)) h
          have hal : ([a, b].map tuI).length = 2 := rfl
          rw [hw, ha]
          generalize [a, b].map tuI = W2 at hfin hal ⊢
          rcases hx with rfl | rfl
          all_goals
            array_mem_dec
            refine hfin fun B2 ρ hB2 => ?_
            array_get_dec
            exact hC hB2 _ _ _ _ _ _ _ _ fun _ _ _ _ _ => hN2 _ _ _ _ _ _ _ _ _
    · array_get_dec
      exact hC hB _ _ _ _ _ _ _ _ fun _ _ _ _ _ => hN2 _ _ _ _ _ _ _ _ _
  · subst e
    array_get_dec
end Tr

open PySem PySem.W PyProof.Rows
set_option maxHeartbeats 0 in
theorem PySem.Challenge.cw_rowswithin_k25_whole_main_closed_classes_holds : PySem.Challenge.rw_rowswithin_k25_whole_main_closed_classes.Holds := by
  w_on; o_law; k_head; (case hw => w_witness2)
  k_fill
  refine Tr.walkG (l := PySem.Challenge.rw_rowswithin_k25_whole_main_closed_classes) (k := 12) (x := "script") rfl rfl ⟨⟨rfl, by decide, by decide⟩, rfl⟩ (fun w h Y => PySem.W.kIn_of Y) ?F
  case F =>
    intro w mg fa h KX G hmg
    refine' Tr.all_mk KX G hmg Tr.math0 Tr.math1 ?a0 ?l0 ?c0 ?k0 ?a1 ?l1 ?c1 ?k1 ?a2 ?l2 ?c2 ?k2 ?a3 ?l3 ?c3 ?k3 ?a4 ?l4 ?c4 ?k4 ?a5 ?l5 ?c5 ?k5 ?a6 ?l6 ?c6 ?k6 ?a7 ?l7 ?c7 ?k7 ?a8 ?l8 ?c8 ?k8 ?a9 ?l9 ?c9 ?k9 ?a10 ?l10 ?c10 ?k10 ?a11 ?l11 ?c11 ?k11 ?a12 ?l12 ?c12 ?k12 ?a13 ?l13 ?c13 ?k13 ?a14 ?l14 ?c14 ?k14 ?a15 ?l15 ?c15 ?k15 ?a16 ?l16 ?c16 ?k16 ?a17 ?l17 ?c17 ?k17 ?a18 ?l18 ?c18 ?k18 ?a19 ?l19 ?c19 ?k19 ?a20 ?l20 ?c20 ?k20 ?a21 ?l21 ?c21 ?k21 ?a22 ?l22 ?c22 ?k22 ?a23 ?l23 ?c23 ?k23 ?a24 ?l24 ?c24 ?k24 ?z_abs ?z_enumerate ?z_int ?z_len ?z_list ?z_max ?z_min ?z_range ?z_repr ?z_set ?z_sorted ?z_sum ?z_tuple
    (case a0 => k_is); (case l0 => k_is); (case c0 => k_is); (case k0 => k_is); (case a1 => k_is); (case l1 => k_is); (case c1 => k_is); (case k1 => k_is); (case a2 => k_is); (case l2 => k_is); (case c2 => k_is); (case k2 => k_is); (case a3 => k_is); (case l3 => k_is); (case c3 => k_is); (case k3 => k_is); (case a4 => k_is); (case l4 => k_is); (case c4 => k_is); (case k4 => k_is); (case a5 => k_is); (case l5 => k_is); (case c5 => k_is); (case k5 => k_is); (case a6 => k_is); (case l6 => k_is); (case c6 => k_is); (case k6 => k_is); (case a7 => k_is); (case l7 => k_is); (case c7 => k_is); (case k7 => k_is); (case a8 => k_is); (case l8 => k_is); (case c8 => k_is); (case k8 => k_is); (case a9 => k_is); (case l9 => k_is); (case c9 => k_is); (case k9 => k_is); (case a10 => k_is); (case l10 => k_is); (case c10 => k_is); (case k10 => k_is); (case a11 => k_is); (case l11 => k_is); (case c11 => k_is); (case k11 => k_is); (case a12 => k_is); (case l12 => k_is); (case c12 => k_is); (case k12 => k_is); (case a13 => k_is); (case l13 => k_is); (case c13 => k_is); (case k13 => k_is); (case a14 => k_is); (case l14 => k_is); (case c14 => k_is); (case k14 => k_is); (case a15 => k_is); (case l15 => k_is); (case c15 => k_is); (case k15 => k_is); (case a16 => k_is); (case l16 => k_is); (case c16 => k_is); (case k16 => k_is); (case a17 => k_is); (case l17 => k_is); (case c17 => k_is); (case k17 => k_is); (case a18 => k_is); (case l18 => k_is); (case c18 => k_is); (case k18 => k_is); (case a19 => k_is); (case l19 => k_is); (case c19 => k_is); (case k19 => k_is); (case a20 => k_is); (case l20 => k_is); (case c20 => k_is); (case k20 => k_is); (case a21 => k_is); (case l21 => k_is); (case c21 => k_is); (case k21 => k_is); (case a22 => k_is); (case l22 => k_is); (case c22 => k_is); (case k22 => k_is); (case a23 => k_is); (case l23 => k_is); (case c23 => k_is); (case k23 => k_is); (case a24 => k_is); (case l24 => k_is); (case c24 => k_is); (case k24 => k_is); (case z_abs => k_is); (case z_enumerate => k_is); (case z_int => k_is); (case z_len => k_is); (case z_list => k_is); (case z_max => k_is); (case z_min => k_is); (case z_range => k_is); (case z_repr => k_is); (case z_set => k_is); (case z_sorted => k_is); (case z_sum => k_is); (case z_tuple => k_is)
