import PyProof.Rows.All
import Wide.All
import OpenK.AllK
import Wide.FinOn
import HandS.ForMost
import HandS.Evl
import HandS.Exc
import HandS.ExcOwn
import HandS.HeadHook1
import HandS.Defaults
import HandS.CallSlots
import HandS.WordsExc
import HandS.Deep
import HandS.IsInst
import HandS.TupMul
import HandS.TupAny
import HandS.Wide
import HandS.Text
import HandS.TupLe
import HandS.SortInts
import HandS.SortKw
import HandS.RaiseMore
import HandS.Iter
import HandS.Dict
import HandS.More
import HandS.Head2
import HandS.HeadEnd
import HandS.HeadHook2
import KE.KStateDown
import HandS.Base
import HandS.Call
import HandS.Ends
import HandS.Words
import HandS.Head0
import HandS.Head1
import PySem.Challenge.RW_loadgaps_k06_needs
set_option Elab.async false
set_option linter.all false
set_option maxRecDepth 100000
set_option maxHeartbeats 0
-- MP0
section
/-! MP0: pure values, how they lie in the heap, configurations. -/
namespace MP
open PySem L2

/-- pure values; a dict by its keys and its values, an object by its class, its fields' names and values -/
inductive D where
  | non | bl (b : Bool) | int (i : Int) | str (x : Str)
  | tup (xs : List D) | lst (xs : List D) | dct (ks vs : List D) | obj (c : Str) (ns : List Str) (vs : List D)

abbrev Ex (H H' : Hp) : Prop := Evl.Ex H H'
theorem Ex.refl (H : Hp) : Ex H H := fun _ _ h => h
theorem Ex.trans {H H1 H2 : Hp} (a : Ex H H1) (b : Ex H1 H2) : Ex H H2 := fun x o h => b x o (a x o h)
theorem Ex.new {H : Hp} {p : Addr} {o : HO} (h : H p = none) : Ex H (upd H p o) := Evl.Ex.new h
/-- a world is held by a heap; what stands there may be locked -/
def Le (W H : Hp) : Prop := ∀ a o, W a = some o → Rd H a o
theorem Le.of {W H : Hp} (e : Ex W H) : Le W H := fun a o h => .inl (e a o h)
theorem Ex.le {W W' H : Hp} (e : Ex W W') (l : Le W' H) : Le W H := fun a o h => l a o (e a o h)

/-- a tuple, a list of the written part -/
def KTup (K : PySem.W.Frag) (a : Addr) (xs : List V) : Prop := ∃ (o : Obj) (its : Array Value) (n : Nat), K.lookup a = some o ∧ o.cls = .type "tuple" ∧ o.data = .seq its n ∧ its.size ≤ sizeLine ∧ Vals xs its.toList
def TupAt (K : PySem.W.Frag) (W : Hp) (a : Addr) (xs : List V) : Prop := W a = some (.tup xs) ∨ KTup K a xs
theorem TupAt.sq {K : PySem.W.Frag} {W H : Hp} {a : Addr} {xs : List V} (l : Le W H) (h : TupAt K W a xs) : SqT K H a xs := by
  rcases h with h | h
  · exact .inl (l a _ h)
  · exact .inr h
theorem TupAt.mono {K : PySem.W.Frag} {W W' : Hp} {a : Addr} {xs : List V} (e : Ex W W') (h : TupAt K W a xs) : TupAt K W' a xs := by
  rcases h with h | h
  · exact .inl (e a _ h)
  · exact .inr h

def KLst (K : PySem.W.Frag) (a : Addr) (xs : List V) : Prop := ∃ (o : Obj) (its : Array Value) (n : Nat), K.lookup a = some o ∧ o.cls = .type "list" ∧ o.dict = none ∧ o.data = .seq its n ∧ its.size ≤ sizeLine ∧ Vals xs its.toList
def LstAt (K : PySem.W.Frag) (W : Hp) (a : Addr) (xs : List V) : Prop := W a = some (.lst xs) ∨ KLst K a xs
theorem LstAt.sq {K : PySem.W.Frag} {W H : Hp} {a : Addr} {xs : List V} (l : Le W H) (h : LstAt K W a xs) : SqL K H a xs := by
  rcases h with h | h
  · exact .inl (l a _ h)
  · exact .inr h
theorem LstAt.mono {K : PySem.W.Frag} {W W' : Hp} {a : Addr} {xs : List V} (e : Ex W W') (h : LstAt K W a xs) : LstAt K W' a xs := by
  rcases h with h | h
  · exact .inl (e a _ h)
  · exact .inr h

def kD : Key → D
  | .inl i => .int i
  | .inr x => .str x

mutual
/-- the value v is the datum d, over the world W -/
inductive Dr (K : PySem.W.Frag) (W : Hp) : V → D → Prop
  | non : Dr K W .non .non
  | bl (b : Bool) : Dr K W (.bl b) (.bl b)
  | int (i : Int) : Dr K W (.int i) (.int i)
  | str (x : Str) : Dr K W (.str x) (.str x)
  | tup {a : Addr} {vs : List V} {ds : List D} : TupAt K W a vs → DrA K W vs ds → Dr K W (.ref a) (.tup ds)
  | lst {a : Addr} {vs : List V} {ds : List D} : LstAt K W a vs → DrA K W vs ds → Dr K W (.ref a) (.lst ds)
  | dK {a : Addr} {kvs : List (Key × V)} {ds : List D} : W a = some (.dK kvs) → DrA K W (kvs.map (·.2)) ds → Dr K W (.ref a) (.dct (kvs.map fun p => kD p.1) ds)
  | dT {a : Addr} {kvs : List (List Key × V)} {ds : List D} : W a = some (.dT kvs) → DrA K W (kvs.map (·.2)) ds → Dr K W (.ref a) (.dct (kvs.map fun p => .tup (p.1.map kD)) ds)
  | obj {a dx : Addr} {c : Str} {fs : List (Str × V)} {ds : List D} : W a = some (.ins (He.ga K c) dx fs) → DrA K W (fs.map (·.2)) ds → Dr K W (.ref a) (.obj c (fs.map (·.1)) ds)
inductive DrA (K : PySem.W.Frag) (W : Hp) : List V → List D → Prop
  | nil : DrA K W [] []
  | cons {v : V} {vs : List V} {d : D} {ds : List D} : Dr K W v d → DrA K W vs ds → DrA K W (v :: vs) (d :: ds)
end

mutual
theorem Dr.mono {K : PySem.W.Frag} {W W' : Hp} (e : Ex W W') : ∀ {v : V} {d : D}, Dr K W v d → Dr K W' v d
  | _, _, .non => .non
  | _, _, .bl b => .bl b
  | _, _, .int i => .int i
  | _, _, .str x => .str x
  | _, _, .tup h r => .tup (h.mono e) (r.mono e)
  | _, _, .lst h r => .lst (h.mono e) (r.mono e)
  | _, _, .dK h r => .dK (e _ _ h) (r.mono e)
  | _, _, .dT h r => .dT (e _ _ h) (r.mono e)
  | _, _, .obj h r => .obj (e _ _ h) (r.mono e)
theorem DrA.mono {K : PySem.W.Frag} {W W' : Hp} (e : Ex W W') : ∀ {vs : List V} {ds : List D}, DrA K W vs ds → DrA K W' vs ds
  | _, _, .nil => .nil
  | _, _, .cons h r => .cons (h.mono e) (r.mono e)
end
theorem DrA.length {K : PySem.W.Frag} {W : Hp} : ∀ {vs : List V} {ds : List D}, DrA K W vs ds → vs.length = ds.length
  | _, _, .nil => rfl
  | _, _, .cons _ r => by simp [r.length]
theorem DrA.append {K : PySem.W.Frag} {W : Hp} : ∀ {vs us : List V} {ds es : List D}, DrA K W vs ds → DrA K W us es → DrA K W (vs ++ us) (ds ++ es)
  | _, _, _, _, .nil, s => s
  | _, _, _, _, .cons h r, s => .cons h (r.append s)
theorem DrA.get {K : PySem.W.Frag} {W : Hp} : ∀ {vs : List V} {ds : List D} {i : Nat} {d : D}, DrA K W vs ds → ds[i]? = some d → ∃ v, vs[i]? = some v ∧ Dr K W v d
  | _, _, _, _, .nil, e => by simp at e
  | _, _, 0, _, .cons h _, e => by simp at e; subst e; exact ⟨_, rfl, h⟩
  | _, _, i + 1, d, .cons _ r, e => by
    obtain ⟨v, h1, h2⟩ := DrA.get (i := i) (d := d) r (by simpa using e)
    exact ⟨v, by simpa using h1, h2⟩
theorem DrA.getV {K : PySem.W.Frag} {W : Hp} : ∀ {vs : List V} {ds : List D} {i : Nat} {v : V}, DrA K W vs ds → vs[i]? = some v → ∃ d, ds[i]? = some d ∧ Dr K W v d
  | _, _, _, _, .nil, e => by simp at e
  | _, _, 0, _, .cons h _, e => by simp at e; subst e; exact ⟨_, rfl, h⟩
  | _, _, i + 1, v, .cons _ r, e => by
    obtain ⟨d, h1, h2⟩ := DrA.getV (i := i) (v := v) r (by simpa using e)
    exact ⟨d, by simpa using h1, h2⟩
theorem DrA.set {K : PySem.W.Frag} {W : Hp} {v : V} {d : D} (h : Dr K W v d) : ∀ {vs : List V} {ds : List D} (i : Nat), DrA K W vs ds → DrA K W (vs.set i v) (ds.set i d)
  | _, _, _, .nil => .nil
  | _, _, 0, .cons _ r => .cons h r
  | _, _, i + 1, .cons q r => .cons q (DrA.set h i r)
theorem DrA.take {K : PySem.W.Frag} {W : Hp} : ∀ {vs : List V} {ds : List D} (n : Nat), DrA K W vs ds → DrA K W (vs.take n) (ds.take n)
  | _, _, 0, _ => .nil
  | _, _, _ + 1, .nil => .nil
  | _, _, n + 1, .cons h r => .cons h (DrA.take n r)
theorem DrA.drop {K : PySem.W.Frag} {W : Hp} : ∀ {vs : List V} {ds : List D} (n : Nat), DrA K W vs ds → DrA K W (vs.drop n) (ds.drop n)
  | _, _, 0, r => r
  | _, _, _ + 1, .nil => .nil
  | _, _, n + 1, .cons _ r => DrA.drop n r
theorem DrA.reverse {K : PySem.W.Frag} {W : Hp} : ∀ {vs : List V} {ds : List D}, DrA K W vs ds → DrA K W vs.reverse ds.reverse
  | _, _, .nil => .nil
  | _, _, .cons h r => by
    rw [List.reverse_cons, List.reverse_cons]
    exact (DrA.reverse r).append (.cons h .nil)
theorem DrA.eraseIdx {K : PySem.W.Frag} {W : Hp} : ∀ {vs : List V} {ds : List D} (n : Nat), DrA K W vs ds → DrA K W (vs.eraseIdx n) (ds.eraseIdx n)
  | _, _, _, .nil => .nil
  | _, _, 0, .cons _ r => r
  | _, _, n + 1, .cons h r => .cons h (DrA.eraseIdx n r)
theorem DrA.ints {K : PySem.W.Frag} {W : Hp} : ∀ {ns : List Int}, DrA K W (ns.map V.int) (ns.map D.int)
  | [] => .nil
  | _ :: _ => .cons (.int _) DrA.ints
theorem DrA.toInts {K : PySem.W.Frag} {W : Hp} : ∀ {ns : List Int} {vs : List V}, DrA K W vs (ns.map D.int) → vs = ns.map V.int
  | [], _, .nil => rfl
  | n :: ns, _, .cons h r => by
    cases h
    rw [DrA.toInts r]
    rfl
theorem DrA.toBools {K : PySem.W.Frag} {W : Hp} : ∀ {bs : List Bool} {vs : List V}, DrA K W vs (bs.map D.bl) → vs = bs.map V.bl
  | [], _, .nil => rfl
  | n :: ns, _, .cons h r => by
    cases h
    rw [DrA.toBools r]
    rfl

/-- the object at a, changeable, holds d -/
inductive MutAt (K : PySem.W.Frag) (W H : Hp) (a : Addr) : D → Prop
  | lst {vs : List V} {ds : List D} : H a = some (.lst vs) → DrA K W vs ds → MutAt K W H a (.lst ds)
  | dK {kvs : List (Key × V)} {ds : List D} : H a = some (.dK kvs) → DrA K W (kvs.map (·.2)) ds → MutAt K W H a (.dct (kvs.map fun p => kD p.1) ds)
  | dT {kvs : List (List Key × V)} {ds : List D} : H a = some (.dT kvs) → DrA K W (kvs.map (·.2)) ds → MutAt K W H a (.dct (kvs.map fun p => .tup (p.1.map kD)) ds)
  | obj {dx : Addr} {c : Str} {fs : List (Str × V)} {ds : List D} : H a = some (.ins (He.ga K c) dx fs) → DrA K W (fs.map (·.2)) ds → MutAt K W H a (.obj c (fs.map (·.1)) ds)
theorem MutAt.there {K : PySem.W.Frag} {W H : Hp} {a : Addr} {d : D} (h : MutAt K W H a d) : ∃ o, H a = some o ∧ ∀ W', (W' a = some o) → Ex W W' → Dr K W' (.ref a) d := by
  cases h with
  | lst e r => exact ⟨_, e, fun W' w x => .lst (.inl w) (r.mono x)⟩
  | dK e r => exact ⟨_, e, fun W' w x => .dK w (r.mono x)⟩
  | dT e r => exact ⟨_, e, fun W' w x => .dT w (r.mono x)⟩
  | obj e r => exact ⟨_, e, fun W' w x => .obj w (r.mono x)⟩
theorem MutAt.mono {K : PySem.W.Frag} {W W' H H' : Hp} {a : Addr} {d : D} (h : MutAt K W H a d) (x : Ex W W') (e : ∀ o, H a = some o → H' a = some o) : MutAt K W' H' a d := by
  cases h with
  | lst q r => exact .lst (e _ q) (r.mono x)
  | dK q r => exact .dK (e _ q) (r.mono x)
  | dT q r => exact .dT (e _ q) (r.mono x)
  | obj q r => exact .obj (e _ q) (r.mono x)
theorem MutAt.ne {K : PySem.W.Frag} {W H : Hp} {a : Addr} {d : D} (h : MutAt K W H a d) : H a ≠ none := by
  obtain ⟨o, e, _⟩ := h.there
  rw [e]; exact nofun

/-- what a slot holds: nothing known; a datum; a changeable thing (its own, or the caller's); a changeable thing that is walked -/
inductive Slot where
  | no | dat (d : D) | mt (own : Bool) (d : D) | lck (own : Bool) (d : D)
/-- what an expression gives: a datum; the changeable thing of a slot; a new changeable thing -/
inductive Vl where
  | dat (d : D) | ref (i : Nat) | new (d : D)
/-- a configuration: the entry's heap, the world, the slots, the frame, the heap -/
structure Cf where
  E : Hp
  W : Hp
  Γ : List Slot
  σ : St
  H : Hp
/-- the changeable addresses; with those that are walked -/
def Cf.mu (c : Cf) (a : Addr) : Prop := ∃ (i : Nat) (b : Bool) (d : D), c.Γ[i]? = some (.mt b d) ∧ c.σ[i]? = some (some (.ref a))
def IsM (Γ : List Slot) (i : Nat) : Prop := ∃ (b : Bool) (d : D), Γ[i]? = some (.mt b d) ∨ Γ[i]? = some (.lck b d)
def Cf.ad (c : Cf) (a : Addr) : Prop := ∃ i : Nat, IsM c.Γ i ∧ c.σ[i]? = some (some (.ref a))
theorem Cf.mu_ad {c : Cf} {a : Addr} (h : c.mu a) : c.ad a := let ⟨i, b, d, g, e⟩ := h; ⟨i, ⟨b, d, .inl g⟩, e⟩

structure Rel (K : PySem.W.Frag) (c : Cf) : Prop where
  len : c.Γ.length = c.σ.length
  le : Le c.W c.H
  ent : ∀ a, c.E a ≠ none → c.H a ≠ none
  dat : ∀ (i : Nat) (d : D), c.Γ[i]? = some (.dat d) → ∃ v, c.σ[i]? = some (some v) ∧ Dr K c.W v d
  am : ∀ (i : Nat) (b : Bool) (d : D), (c.Γ[i]? = some (.mt b d) ∨ c.Γ[i]? = some (.lck b d)) → ∃ a, c.σ[i]? = some (some (.ref a)) ∧ c.W a = none ∧ MutAt K c.W c.H a d ∧ (b = true → c.E a = none)
  dist : ∀ (i j : Nat) (a : Addr), IsM c.Γ i → IsM c.Γ j → c.σ[i]? = some (some (.ref a)) → c.σ[j]? = some (some (.ref a)) → i = j
theorem Rel.mt {K : PySem.W.Frag} {c : Cf} (R : Rel K c) (i : Nat) (b : Bool) (d : D) (g : c.Γ[i]? = some (.mt b d)) : ∃ a, c.σ[i]? = some (some (.ref a)) ∧ c.W a = none ∧ MutAt K c.W c.H a d ∧ (b = true → c.E a = none) := R.am i b d (.inl g)
theorem Rel.lk {K : PySem.W.Frag} {c : Cf} (R : Rel K c) (i : Nat) (b : Bool) (d : D) (g : c.Γ[i]? = some (.lck b d)) : ∃ a, c.σ[i]? = some (some (.ref a)) ∧ c.W a = none ∧ MutAt K c.W c.H a d ∧ (b = true → c.E a = none) := R.am i b d (.inr g)
theorem Rel.ad_ne {K : PySem.W.Frag} {c : Cf} (R : Rel K c) {a : Addr} (h : c.ad a) : c.H a ≠ none ∧ c.W a = none := by
  obtain ⟨i, ⟨b, d, g⟩, e⟩ := h
  obtain ⟨a', e1, e2, e3, _⟩ := R.am i b d g
  rw [e] at e1
  cases e1
  exact ⟨e3.ne, e2⟩

/-- from one configuration to a later one of the same def -/
structure Stp (c c' : Cf) : Prop where
  ent : c'.E = c.E
  w : Ex c.W c'.W
  fr : ∀ a o, c.H a = some o → ¬ c.mu a → c'.H a = some o
  th : ∀ a, c.H a ≠ none → c'.H a ≠ none
  nw : ∀ a, c'.W a ≠ none → c.W a ≠ none ∨ c.H a = none ∨ c.mu a
  mu : ∀ a, c'.mu a → c.mu a ∨ c.H a = none
  ad : ∀ a, c'.ad a → c.ad a ∨ c.H a = none
  lk : ∀ (i : Nat) (b : Bool) (d : D), c'.Γ[i]? = some (.lck b d) → (∃ d', c.Γ[i]? = some (.lck b d')) ∧ c'.σ[i]? = c.σ[i]?
  io : ∀ (i : Nat) (d : D), c'.Γ[i]? = some (.mt false d) → (∃ d', c.Γ[i]? = some (.mt false d')) ∧ c'.σ[i]? = c.σ[i]?
theorem Stp.refl (c : Cf) : Stp c c := ⟨rfl, Ex.refl _, fun _ _ h _ => h, fun _ h => h, fun _ h => .inl h, fun _ h => .inl h, fun _ h => .inl h, fun _ b d h => ⟨⟨d, h⟩, rfl⟩, fun _ d h => ⟨⟨d, h⟩, rfl⟩⟩
theorem ne_none {α : Type} {o : Option α} (h : o ≠ none) : ∃ x, o = some x := by
  cases o with
  | none => exact absurd rfl h
  | some x => exact ⟨x, rfl⟩
theorem Stp.trans {c c1 c2 : Cf} (s : Stp c c1) (t : Stp c1 c2) : Stp c c2 where
  ent := t.ent.trans s.ent
  w := s.w.trans t.w
  fr := fun a o h n => by
    refine t.fr a o (s.fr a o h n) fun m => ?_
    rcases s.mu a m with q | q
    · exact n q
    · rw [h] at q; cases q
  th := fun a h => t.th a (s.th a h)
  nw := fun a h => by
    rcases t.nw a h with q | q | q
    · exact s.nw a q
    · by_cases hn : c.H a = none
      · exact .inr (.inl hn)
      · exact absurd q (s.th a hn)
    · rcases s.mu a q with q | q
      · exact .inr (.inr q)
      · exact .inr (.inl q)
  mu := fun a h => by
    rcases t.mu a h with q | q
    · exact s.mu a q
    · by_cases hn : c.H a = none
      · exact .inr hn
      · exact absurd q (s.th a hn)
  ad := fun a h => by
    rcases t.ad a h with q | q
    · exact s.ad a q
    · by_cases hn : c.H a = none
      · exact .inr hn
      · exact absurd q (s.th a hn)
  lk := fun i b d h => by
    obtain ⟨⟨d', g⟩, e⟩ := t.lk i b d h
    obtain ⟨z, e'⟩ := s.lk i b d' g
    exact ⟨z, e.trans e'⟩
  io := fun i d h => by
    obtain ⟨⟨d', g⟩, e⟩ := t.io i d h
    obtain ⟨z, e'⟩ := s.io i d' g
    exact ⟨z, e.trans e'⟩

/-- an expression's value; c0 ahead of it, c behind -/
inductive VRel (K : PySem.W.Frag) (c0 c : Cf) : V → Vl → Prop
  | dat {v : V} {d : D} : Dr K c.W v d → VRel K c0 c v (.dat d)
  | ref {v : V} {i : Nat} : c.σ[i]? = some (some v) → VRel K c0 c v (.ref i)
  | new {a : Addr} {d : D} : c0.H a = none → c.W a = none → ¬ c.ad a → MutAt K c.W c.H a d → VRel K c0 c (.ref a) (.new d)
theorem VRel.next {K : PySem.W.Frag} {c0 c c' : Cf} {v : V} {l : Vl} (h : VRel K c0 c v l) (s : Stp c c') (hσ : c'.σ = c.σ) : VRel K c0 c' v l := by
  cases h with
  | dat d => exact .dat (d.mono s.w)
  | ref e => exact .ref (by rw [hσ]; exact e)
  | @new a d h0 hw hm ha =>
    have hn := ha.ne
    refine .new h0 ?_ ?_ (ha.mono s.w fun o e => s.fr _ o e fun z => hm (Cf.mu_ad z))
    · by_cases q : c'.W a = none
      · exact q
      · rcases s.nw _ q with z | z | z
        · exact absurd hw z
        · exact absurd z hn
        · exact absurd (Cf.mu_ad z) hm
    · intro q
      rcases s.ad _ q with z | z
      · exact hm z
      · exact hn z
theorem VRel.back {K : PySem.W.Frag} {c0 c1 c : Cf} {v : V} {l : Vl} (h : VRel K c1 c v l) (s : ∀ a, c1.H a = none → c0.H a = none) : VRel K c0 c v l := by
  cases h with
  | dat d => exact .dat d
  | ref e => exact .ref e
  | @new a d h0 hw hm ha => exact .new (s a h0) hw hm ha
theorem Stp.back {c c' : Cf} (s : Stp c c') : ∀ a, c'.H a = none → c.H a = none := fun a h => by
  by_cases q : c.H a = none
  · exact q
  · exact absurd h (s.th a q)
inductive VRelA (K : PySem.W.Frag) (c0 c : Cf) : List V → List Vl → Prop
  | nil : VRelA K c0 c [] []
  | cons {v : V} {vs : List V} {l : Vl} {ls : List Vl} : VRel K c0 c v l → VRelA K c0 c vs ls → (∀ d d', l = .new d → (v, Vl.new d') ∉ vs.zip ls) → VRelA K c0 c (v :: vs) (l :: ls)
theorem VRelA.next {K : PySem.W.Frag} {c0 c c' : Cf} (s : Stp c c') (hσ : c'.σ = c.σ) : ∀ {vs : List V} {ls : List Vl}, VRelA K c0 c vs ls → VRelA K c0 c' vs ls
  | _, _, .nil => .nil
  | _, _, .cons h r n => .cons (h.next s hσ) (r.next s hσ) n
theorem VRelA.back {K : PySem.W.Frag} {c0 c1 c : Cf} (s : ∀ a, c1.H a = none → c0.H a = none) : ∀ {vs : List V} {ls : List Vl}, VRelA K c1 c vs ls → VRelA K c0 c vs ls
  | _, _, .nil => .nil
  | _, _, .cons h r n => .cons (h.back s) (r.back s) n
theorem VRelA.fresh {K : PySem.W.Frag} {c0 c : Cf} : ∀ {vs : List V} {ls : List Vl} {a : Addr} {d : D}, VRelA K c0 c vs ls → (V.ref a, Vl.new d) ∈ vs.zip ls → c0.H a = none
  | _, _, _, _, .nil, h => by simp at h
  | _, _, a, d, .cons h r _, m => by
    rw [List.zip_cons_cons] at m
    rcases List.mem_cons.mp m with e | e
    · cases e
      cases h with
      | new h0 _ _ _ => exact h0
    · exact r.fresh e

/-- what a given thing holds now -/
def res (Γ : List Slot) : Vl → Option D
  | .dat d => some d
  | .new d => some d
  | .ref i => match Γ[i]? with
    | some (.dat d) => some d
    | some (.mt _ d) => some d
    | some (.lck _ d) => some d
    | _ => none
def resA (Γ : List Slot) : List Vl → Option (List D)
  | [] => some []
  | l :: ls => match res Γ l, resA Γ ls with
    | some d, some ds => some (d :: ds)
    | _, _ => none
/-- v is d, at least at its top changeable -/
inductive Top (K : PySem.W.Frag) (W H : Hp) : V → D → Prop
  | dat {v : V} {d : D} : Dr K W v d → Top K W H v d
  | mt {a : Addr} {d : D} : MutAt K W H a d → Top K W H (.ref a) d
inductive TopA (K : PySem.W.Frag) (W H : Hp) : List V → List D → Prop
  | nil : TopA K W H [] []
  | cons {v : V} {vs : List V} {d : D} {ds : List D} : Top K W H v d → TopA K W H vs ds → TopA K W H (v :: vs) (d :: ds)
theorem Rel.top {K : PySem.W.Frag} {c0 c : Cf} {v : V} {l : Vl} {d : D} (R : Rel K c) (h : VRel K c0 c v l) (e : res c.Γ l = some d) : Top K c.W c.H v d := by
  cases h with
  | dat q => cases e; exact .dat q
  | new _ _ _ q => cases e; exact .mt q
  | ref q =>
    rename_i i
    simp only [res] at e
    cases g : c.Γ[i]? with
    | none => rw [g] at e; cases e
    | some s =>
      rw [g] at e
      cases s with
      | no => cases e
      | dat d' =>
        cases e
        obtain ⟨v', e1, e2⟩ := R.dat _ _ g
        rw [q] at e1
        cases e1
        exact .dat e2
      | mt b d' =>
        cases e
        obtain ⟨a, e1, _, e2, _⟩ := R.mt _ _ _ g
        rw [q] at e1
        cases e1
        exact .mt e2
      | lck b d' =>
        cases e
        obtain ⟨a, e1, _, e2, _⟩ := R.lk _ _ _ g
        rw [q] at e1
        cases e1
        exact .mt e2
theorem Rel.topA {K : PySem.W.Frag} {c0 c : Cf} (R : Rel K c) : ∀ {vs : List V} {ls : List Vl} {ds : List D}, VRelA K c0 c vs ls → resA c.Γ ls = some ds → TopA K c.W c.H vs ds
  | _, _, _, .nil, e => by cases e; exact .nil
  | _, _, _, .cons (l := l) (ls := ls) h r _, e => by
    unfold resA at e
    cases e1 : res c.Γ l with
    | none => rw [e1] at e; cases e
    | some d =>
      cases e2 : resA c.Γ ls with
      | none => rw [e1, e2] at e; cases e
      | some ds =>
        rw [e1, e2] at e
        cases e
        exact .cons (R.top h e1) (R.topA r e2)

/-- what comes out of a built-in or a call: a datum, or a new changeable thing -/
inductive Ou where
  | dat (d : D) | new (d : D)
def Ou.vl : Ou → Vl
  | .dat d => .dat d
  | .new d => .new d
/-- new things only -/
structure PSt (W H W' H' : Hp) : Prop where
  w : Ex W W'
  h : Ex H H'
  le : Le W' H'
  nw : ∀ a, W' a ≠ none → W a ≠ none ∨ H a = none
inductive ORel (K : PySem.W.Frag) (H W' H' : Hp) : V → Ou → Prop
  | dat {v : V} {d : D} : Dr K W' v d → ORel K H W' H' v (.dat d)
  | new {a : Addr} {d : D} : H a = none → W' a = none → MutAt K W' H' a d → ORel K H W' H' (.ref a) (.new d)
theorem PSt.refl {W H : Hp} (l : Le W H) : PSt W H W H := ⟨Ex.refl _, Ex.refl _, l, fun _ h => .inl h⟩
theorem PSt.trans {W H W1 H1 W2 H2 : Hp} (a : PSt W H W1 H1) (b : PSt W1 H1 W2 H2) : PSt W H W2 H2 :=
  ⟨a.w.trans b.w, a.h.trans b.h, b.le, fun x h => by
    rcases b.nw x h with q | q
    · exact a.nw x q
    · right
      cases e : H x with
      | none => rfl
      | some o => rw [a.h x o e] at q; cases q⟩
theorem Le.ext {W H H' : Hp} (l : Le W H) (e : Ex H H') : Le W H' := fun a o h => by
  rcases l a o h with q | ⟨ob, q⟩
  · exact .inl (e _ _ q)
  · exact .inr ⟨ob, e _ _ q⟩
theorem Le.no {W H : Hp} {p : Addr} (l : Le W H) (h : H p = none) : W p = none := by
  cases e : W p with
  | none => rfl
  | some o =>
    rcases l p o e with q | ⟨ob, q⟩
    · rw [h] at q; cases q
    · rw [h] at q; cases q
theorem Le.upd {W H : Hp} {p : Addr} {o : HO} (l : Le W H) (h : H p = none) : Le (upd W p o) (upd H p o) := fun a u e => by
  by_cases q : a = p
  · subst q
    rw [upd_same] at e
    cases e
    exact .inl upd_same
  · rw [upd_ne q] at e
    rcases l a u e with z | ⟨ob, z⟩
    · exact .inl (by rw [upd_ne q]; exact z)
    · exact .inr ⟨ob, by rw [upd_ne q]; exact z⟩
/-- a new frozen thing -/
theorem PSt.froz {W H : Hp} {p : Addr} {o : HO} (l : Le W H) (h : H p = none) : PSt W H (upd W p o) (upd H p o) :=
  ⟨Ex.new (l.no h), Ex.new h, l.upd h, fun a q => by
    by_cases z : a = p
    · subst z; exact .inr h
    · rw [upd_ne z] at q; exact .inl q⟩
/-- a new changeable thing -/
theorem PSt.fresh {W H : Hp} {p : Addr} {o : HO} (l : Le W H) (h : H p = none) : PSt W H W (upd H p o) :=
  ⟨Ex.refl _, Ex.new h, l.ext (Ex.new h), fun a q => .inl q⟩

/-- a configuration behind a PSt -/
theorem Rel.pst {K : PySem.W.Frag} {c : Cf} {W' H' : Hp} (R : Rel K c) (p : PSt c.W c.H W' H') : Rel K ⟨c.E, W', c.Γ, c.σ, H'⟩ ∧ Stp c ⟨c.E, W', c.Γ, c.σ, H'⟩ := by
  have hw : ∀ {a d}, c.W a = none → MutAt K c.W c.H a d → W' a = none := fun {a d} h m => by
    by_cases q : W' a = none
    · exact q
    · rcases p.nw a q with z | z
      · exact absurd h z
      · exact absurd z m.ne
  have th : ∀ a, c.H a ≠ none → H' a ≠ none := fun a h => by
    obtain ⟨o, e⟩ := ne_none h
    rw [p.h a o e]; exact nofun
  refine ⟨⟨R.len, p.le, fun a h => th a (R.ent a h), fun i d g => ?_, fun i b d g => ?_, R.dist⟩, ⟨rfl, p.w, fun a o h _ => p.h a o h, th, fun a h => ?_, fun a h => .inl h, fun a h => .inl h, fun i b d g => ⟨⟨d, g⟩, rfl⟩, fun i d g => ⟨⟨d, g⟩, rfl⟩⟩⟩
  · obtain ⟨v, e1, e2⟩ := R.dat i d g
    exact ⟨v, e1, e2.mono p.w⟩
  · obtain ⟨a, e1, e2, e3, e4⟩ := R.am i b d g
    exact ⟨a, e1, hw e2 e3, e3.mono p.w fun o q => p.h _ _ q, e4⟩
  · rcases p.nw a h with q | q
    · exact .inl q
    · exact .inr (.inl q)
end MP

end
-- MP1
section
/-! MP1: the small language and its evaluator. -/
namespace MP
open PySem L2

/-- an exception: its class, its fields -/
structure Xn where
  cls : Str
  ns : List Str := []
  vs : List D := []
/-- what a def's call comes to: its value and the new contents of its in-out parameters -/
inductive FR where
  | ok (o : Ou) (ios : List D) | exn (x : Xn) (ios : List D) | stuck
structure Fn where
  io : List Bool
  F : List D → FR
inductive Rs (α : Type) where
  | ok (a : α) (Γ : List Slot) | exn (x : Xn) (Γ : List Slot) | stuck
def Rs.bind {α β : Type} (r : Rs α) (f : α → List Slot → Rs β) : Rs β := match r with
  | .ok a Γ => f a Γ
  | .exn x Γ => .exn x Γ
  | .stuck => .stuck
def Rs.mapG {α : Type} (r : Rs α) (f : List Slot → List Slot) : Rs α := match r with
  | .ok a Γ => .ok a (f Γ)
  | .exn x Γ => .exn x (f Γ)
  | .stuck => .stuck
def Rs.nox {α : Type} (r : Rs α) : Rs α := match r with
  | .exn _ _ => .stuck
  | r => r
/-- a target: a name's slot; a tuple of targets -/
inductive Tg where
  | nm (i : Nat) | nil | cons (a r : Tg)
mutual
inductive Tm where
  | var (i : Nat)
  | con (d : D)
  | prim (f : List D → Option Ou) (as : Ta)
  | mk (f : List D → Option Ou) (as : Ta)
  | call (f : Fn) (as : Ta)
  | and (a b : Tm) | or (a b : Tm) | not (a : Tm)
  | ifx (c a b : Tm)
  | chn (f g : List D → Option Ou) (a b c : Tm)
  | lc (g : List D → Option (List D)) (as : Ta) (tg : Tg) (own : List Nat) (c e : Tm)
  | mth (k : D → Bool) (f : D → List D → Option (D × Ou)) (i : Nat) (as : Ta)
inductive Ta where
  | nil | cons (t : Tm) (r : Ta)
end
mutual
inductive Sm where
  | set (i : Nat) (t : Tm)
  | unp (tg : Tg) (t : Tm)
  | par (is : List Nat) (as : Ta)
  | sub (f : D → D → D → Option D) (i : Nat) (k t : Tm)
  | drop (t : Tm)
  | ret (t : Tm)
  | ite (c : Tm) (a b : Ss)
  | for (g : List D → Option (List D)) (as : Ta) (tg : Tg) (b : Ss)
  | whl (c : Tm) (b : Ss)
  | brk | cnt | pas | nev
inductive Ss where
  | nil | cons (s : Sm) (r : Ss)
end
def LIM : Nat := 10000000
theorem lim_le {n : Nat} (h : n ≤ LIM) : n ≤ sizeLine := Nat.le_trans h (by decide +kernel)
theorem lim_lt {n : Nat} (h : n < LIM) : n < sizeLine := Nat.lt_of_lt_of_le h (by decide +kernel)

/-- the datum of a given thing that is kept somewhere: a changeable one is changeable no more -/
def esc (l : Vl) (Γ : List Slot) : Rs D := match l with
  | .dat d => .ok d Γ
  | .new d => .ok d Γ
  | .ref i => match Γ[i]? with
    | some (.dat d) => .ok d Γ
    | some (.mt _ d) => .ok d (Γ.set i (.dat d))
    | _ => .stuck
def escA : List Vl → List Slot → Rs (List D)
  | [], Γ => .ok [] Γ
  | l :: ls, Γ => (esc l Γ).bind fun d Γ1 => (escA ls Γ1).bind fun ds Γ2 => .ok (d :: ds) Γ2
mutual
/-- a datum goes to a target -/
def bnd : Tg → D → List Slot → Option (List Slot)
  | .nm i, d, Γ => if i < Γ.length then some (Γ.set i (.dat d)) else none
  | .nil, .tup [], Γ => some Γ
  | .cons a r, .tup (d :: ds), Γ => match bnd a d Γ with
    | some Γ1 => bnd r (.tup ds) Γ1
    | none => none
  | _, _, _ => none
end
def wipeG (own : List Nat) (Γ : List Slot) : List Slot := match own with
  | [] => Γ
  | v :: vs => (wipeG vs Γ).set v .no
/-- the changeable slots among given things -/
def locks (Γ : List Slot) : List Vl → List Nat
  | [] => []
  | .ref i :: ls => match Γ[i]? with
    | some (.mt _ _) => i :: locks Γ ls
    | _ => locks Γ ls
  | _ :: ls => locks Γ ls
def lock1 (i : Nat) (Γ : List Slot) : List Slot := match Γ[i]? with
  | some (.mt b d) => Γ.set i (.lck b d)
  | _ => Γ
def unlock1 (i : Nat) (Γ : List Slot) : List Slot := match Γ[i]? with
  | some (.lck b d) => Γ.set i (.mt b d)
  | _ => Γ
def lockA : List Nat → List Slot → List Slot
  | [], Γ => Γ
  | i :: r, Γ => lockA r (lock1 i Γ)
def unlockA : List Nat → List Slot → List Slot
  | [], Γ => Γ
  | i :: r, Γ => unlockA r (unlock1 i Γ)
def noMut (own : List Nat) (Γ : List Slot) : Bool := own.all fun i => match Γ[i]? with
  | some (.mt _ _) => false
  | some (.lck _ _) => false
  | _ => true
/-- the slots of a comprehension's own names as they were -/
def keepG (own : List Nat) (Γ0 Γ : List Slot) : List Slot := match own with
  | [] => Γ
  | v :: vs => (keepG vs Γ0 Γ).set v (Γ0[v]?.getD .no)
def lcLoop (ec ee : List Slot → Rs Vl) (tg : Tg) (own : List Nat) : List D → List D → List Slot → Rs (List D)
  | [], acc, Γ => .ok acc Γ
  | x :: xs, acc, Γ => match bnd tg x Γ with
    | none => .stuck
    | some Γ1 => (ec Γ1).nox.bind fun b Γ2 => match b with
      | .dat (.bl true) => (ee Γ2).nox.bind fun l Γ3 => (esc l Γ3).bind fun d Γ4 => lcLoop ec ee tg own xs (acc ++ [d]) (wipeG own Γ4)
      | .dat (.bl false) => lcLoop ec ee tg own xs acc (wipeG own Γ2)
      | _ => .stuck
def scal : D → Bool
  | .non => true
  | .bl _ => true
  | .int _ => true
  | .str _ => true
  | _ => false
def flat : D → Bool
  | .lst xs => xs.all scal
  | d => scal d
def Ou.scal : Ou → Bool
  | .dat d => MP.scal d
  | _ => false
/-- in-out arguments: slots of changeable things, all different -/
def ioIx : List Bool → List Vl → Option (List Nat)
  | [], [] => some []
  | true :: bs, .ref i :: ls => (ioIx bs ls).map (i :: ·)
  | false :: bs, _ :: ls => ioIx bs ls
  | _, _ => none
def isMt (Γ : List Slot) (i : Nat) : Bool := match Γ[i]? with
  | some (.mt _ _) => true
  | _ => false
/-- changeable things that are lent -/
def lent (Γ : List Slot) : List Bool → List Vl → List Nat
  | false :: bs, .ref i :: ls => match Γ[i]? with
    | some (.mt _ _) => i :: lent Γ bs ls
    | some (.lck _ _) => i :: lent Γ bs ls
    | _ => lent Γ bs ls
  | _ :: bs, _ :: ls => lent Γ bs ls
  | _, _ => []
def put1 (Γ : List Slot) (i : Nat) (d : D) : List Slot := match Γ[i]? with
  | some (.mt b _) => Γ.set i (.mt b d)
  | _ => Γ
def putA (Γ : List Slot) : List Nat → List D → List Slot
  | i :: is, d :: ds => putA (put1 Γ i d) is ds
  | _, _ => Γ
def freeze1 (Γ : List Slot) (i : Nat) : List Slot := match Γ[i]? with
  | some (.mt _ d) => Γ.set i (.dat d)
  | _ => Γ
def freezeA (Γ : List Slot) : List Nat → List Slot
  | [] => Γ
  | i :: is => freezeA (freeze1 Γ i) is
def evCall (f : Fn) (ls : List Vl) (Γ : List Slot) : Rs Vl := match resA Γ ls, ioIx f.io ls with
  | some ds, some is =>
    if is.Nodup ∧ is.all (isMt Γ) = true ∧ (lent Γ f.io ls).all (fun i => !is.contains i) = true then
      match f.F ds with
      | .ok o ios => if ios.length = is.length then
          (if (lent Γ f.io ls).isEmpty = true ∨ (o.scal = true ∧ ios.all flat = true) then .ok o.vl (putA Γ is ios)
           else if (lent Γ f.io ls).all (isMt Γ) = true then .ok o.vl (freezeA (putA Γ is ios) (lent Γ f.io ls)) else .stuck) else .stuck
      | .exn x ios => if ios.length = is.length ∧ (lent Γ f.io ls).isEmpty = true then .exn x (putA Γ is ios) else .stuck
      | .stuck => .stuck
    else .stuck
  | _, _ => .stuck
mutual
def ev : Tm → List Slot → Rs Vl
  | .var i, Γ => match Γ[i]? with
    | some (.dat d) => .ok (.dat d) Γ
    | some (.mt _ _) => .ok (.ref i) Γ
    | some (.lck _ _) => .ok (.ref i) Γ
    | _ => .stuck
  | .con d, Γ => .ok (.dat d) Γ
  | .prim f as, Γ => (evA as Γ).bind fun ls Γ1 => match resA Γ1 ls with
    | some ds => (match f ds with
      | some o => .ok o.vl Γ1
      | none => .stuck)
    | none => .stuck
  | .mk f as, Γ => (evA as Γ).bind fun ls Γ1 => (escA ls Γ1).bind fun ds Γ2 => match f ds with
    | some o => .ok o.vl Γ2
    | none => .stuck
  | .call f as, Γ => (evA as Γ).bind fun ls Γ1 => evCall f ls Γ1
  | .and a b, Γ => (ev a Γ).bind fun l Γ1 => match l with
    | .dat (.bl true) => ev b Γ1
    | .dat (.bl false) => .ok l Γ1
    | _ => .stuck
  | .or a b, Γ => (ev a Γ).bind fun l Γ1 => match l with
    | .dat (.bl true) => .ok l Γ1
    | .dat (.bl false) => ev b Γ1
    | _ => .stuck
  | .not a, Γ => (ev a Γ).bind fun l Γ1 => match l with
    | .dat (.bl b) => .ok (.dat (.bl (!b))) Γ1
    | _ => .stuck
  | .ifx c a b, Γ => (ev c Γ).bind fun l Γ1 => match l with
    | .dat (.bl true) => ev a Γ1
    | .dat (.bl false) => ev b Γ1
    | _ => .stuck
  | .chn f g a b c, Γ => (ev a Γ).bind fun la Γ1 => (ev b Γ1).bind fun lb Γ2 => match resA Γ2 [la, lb] with
    | some ds => (match f ds with
      | some (.dat (.bl false)) => .ok (.dat (.bl false)) Γ2
      | some (.dat (.bl true)) => (ev c Γ2).bind fun lc Γ3 => (match resA Γ3 [lb, lc] with
        | some es => (match g es with
          | some o => .ok o.vl Γ3
          | none => .stuck)
        | none => .stuck)
      | _ => .stuck)
    | none => .stuck
  | .lc g as tg own c e, Γ => (evA as Γ).bind fun ls Γ1 => match resA Γ1 ls with
    | some ds => (match g ds with
      | some xs => if xs.length ≤ LIM ∧ noMut own Γ1 = true then
          (lcLoop (ev c) (ev e) tg own xs [] (wipeG own (lockA (locks Γ1 ls) Γ1))).bind fun acc Γ2 => .ok (.new (.lst acc)) (keepG own Γ1 (unlockA (locks Γ1 ls) Γ2))
        else .stuck
      | none => .stuck)
    | none => .stuck
  | .mth k f i as, Γ => match Γ[i]? with
    | some (.mt _ d0) => if k d0 = true then (evA as Γ).bind fun ls Γ1 => (escA ls Γ1).bind fun ds Γ2 => (match Γ2[i]? with
      | some (.mt b d) => (match f d ds with
        | some (d', o) => .ok o.vl (Γ2.set i (.mt b d'))
        | none => .stuck)
      | _ => .stuck) else .stuck
    | _ => .stuck
def evA : Ta → List Slot → Rs (List Vl)
  | .nil, Γ => .ok [] Γ
  | .cons t r, Γ => (ev t Γ).bind fun l Γ1 => (evA r Γ1).bind fun ls Γ2 => .ok (l :: ls) Γ2
end
inductive Fl where
  | nx | rt (o : Ou) | bk | ct
/-- a value goes to a name -/
def store (i : Nat) (l : Vl) (Γ : List Slot) : Rs Unit := if i < Γ.length then (match l with
  | .new d => .ok () (Γ.set i (.mt true d))
  | l => (esc l Γ).bind fun d Γ1 => .ok () (Γ1.set i (.dat d))) else .stuck
def storeA : List Nat → List Vl → List Slot → Rs Unit
  | [], [], Γ => .ok () Γ
  | _ :: _, .ref _ :: _, _ => .stuck
  | i :: is, l :: ls, Γ => (store i l Γ).bind fun _ Γ1 => storeA is ls Γ1
  | _, _, _ => .stuck
def retV (l : Vl) (Γ : List Slot) : Rs Fl := match l with
  | .dat d => .ok (.rt (.dat d)) Γ
  | .new d => .ok (.rt (.new d)) Γ
  | .ref i => match Γ[i]? with
    | some (.dat d) => .ok (.rt (.dat d)) Γ
    | some (.mt true d) => .ok (.rt (.new d)) (Γ.set i .no)
    | _ => .stuck
def forLoop (eb : List Slot → Rs Fl) (tg : Tg) : List D → List Slot → Rs Fl
  | [], Γ => .ok .nx Γ
  | x :: xs, Γ => match bnd tg x Γ with
    | none => .stuck
    | some Γ1 => (eb Γ1).bind fun f Γ2 => match f with
      | .nx => forLoop eb tg xs Γ2
      | .ct => forLoop eb tg xs Γ2
      | .bk => .ok .nx Γ2
      | .rt o => .ok (.rt o) Γ2
def whlLoop (ec : List Slot → Rs Vl) (eb : List Slot → Rs Fl) : Nat → List Slot → Rs Fl
  | 0, _ => .stuck
  | n + 1, Γ => (ec Γ).bind fun b Γ1 => match b with
    | .dat (.bl false) => .ok .nx Γ1
    | .dat (.bl true) => (eb Γ1).bind fun f Γ2 => (match f with
      | .nx => whlLoop ec eb n Γ2
      | .ct => whlLoop ec eb n Γ2
      | .bk => .ok .nx Γ2
      | .rt o => .ok (.rt o) Γ2)
    | _ => .stuck
mutual
def ex (n : Nat) : Sm → List Slot → Rs Fl
  | .set i t, Γ => (ev t Γ).bind fun l Γ1 => (store i l Γ1).bind fun _ Γ2 => .ok .nx Γ2
  | .unp tg t, Γ => (ev t Γ).bind fun l Γ1 => match res Γ1 l with
    | some (.tup ds) => (match bnd tg (.tup ds) Γ1 with
      | some Γ2 => .ok .nx Γ2
      | none => .stuck)
    | _ => .stuck
  | .par is as, Γ => (evA as Γ).bind fun ls Γ1 => (storeA is ls Γ1).bind fun _ Γ2 => .ok .nx Γ2
  | .sub f i k t, Γ => if isMt Γ i = true then (ev t Γ).bind fun l Γ1 => (ev k Γ1).bind fun lk Γ2 => (escA [l, lk] Γ2).bind fun ds Γ3 => (match ds, Γ3[i]? with
    | [d, dk], some (.mt b o) => (match f o dk d with
      | some o' => .ok .nx (Γ3.set i (.mt b o'))
      | none => .stuck)
    | _, _ => .stuck) else .stuck
  | .drop t, Γ => (ev t Γ).bind fun _ Γ1 => .ok .nx Γ1
  | .ret t, Γ => (ev t Γ).bind fun l Γ1 => retV l Γ1
  | .ite c a b, Γ => (ev c Γ).bind fun l Γ1 => match l with
    | .dat (.bl true) => exs n a Γ1
    | .dat (.bl false) => exs n b Γ1
    | _ => .stuck
  | .for g as tg b, Γ => (evA as Γ).bind fun ls Γ1 => match resA Γ1 ls with
    | some ds => (match g ds with
      | some xs => (forLoop (exs n b) tg xs (lockA (locks Γ1 ls) Γ1)).mapG (unlockA (locks Γ1 ls))
      | none => .stuck)
    | none => .stuck
  | .whl c b, Γ => whlLoop (ev c) (exs n b) n Γ
  | .brk, Γ => .ok .bk Γ
  | .cnt, Γ => .ok .ct Γ
  | .pas, Γ => .ok .nx Γ
  | .nev, _ => .stuck
def exs (n : Nat) : Ss → List Slot → Rs Fl
  | .nil, Γ => .ok .nx Γ
  | .cons s r, Γ => (ex n s Γ).bind fun f Γ1 => match f with
    | .nx => exs n r Γ1
    | f => .ok f Γ1
end
def initG : List Bool → List D → List Slot
  | true :: bs, d :: ds => .mt false d :: initG bs ds
  | false :: bs, d :: ds => .dat d :: initG bs ds
  | _, _ => []
def ioOut : List Bool → List Slot → Option (List D)
  | true :: bs, .mt false d :: r => (ioOut bs r).map (d :: ·)
  | true :: _, _ => none
  | false :: bs, _ :: r => ioOut bs r
  | false :: _, [] => none
  | [], _ => some []
/-- the def's own function: io its in-out parameters, m further slots, n the bound of its whiles' turns -/
def runF (io : List Bool) (m n : Nat) (body : Ss) (ds : List D) : FR :=
  if ds.length = io.length then (match exs n body (initG io ds ++ List.replicate m .no) with
  | .ok f Γ => (match ioOut io Γ with
    | some ios => (match f with
      | .nx => .ok (.dat .non) ios
      | .rt o => .ok o ios
      | _ => .stuck)
    | none => .stuck)
  | .exn x Γ => (match ioOut io Γ with
    | some ios => .exn x ios
    | none => .stuck)
  | .stuck => .stuck) else .stuck
end MP

end
-- MP2
section
/-! MP2: what the evaluator's results mean; the readings of expressions. -/
namespace MP
open PySem L2

/-- an exception's class and dict -/
def XRel (K : PySem.W.Frag) (W H : Hp) (x : Xn) (cls : Value) (d : Option Addr) : Prop :=
  cls = .ref (He.ga K x.cls) ∧ ((x.ns = [] ∧ d = none) ∨ ∃ dd fs, d = some dd ∧ H dd = some (.xd fs) ∧ fs.map (·.1) = x.ns ∧ DrA K W (fs.map (·.2)) x.vs)
/-- behind a part that leaves the frame's slots -/
def PoR (K : PySem.W.Frag) (Wx : WX) {α : Type} (c : Cf) (r : Rs α) (P : α → Cf → Prop) : Prop := match r with
  | .ok a Γ => ∀ W' H', Rel K ⟨c.E, W', Γ, c.σ, H'⟩ → Stp c ⟨c.E, W', Γ, c.σ, H'⟩ → P a ⟨c.E, W', Γ, c.σ, H'⟩
  | .exn x Γ => ∀ cls d W' H', Rel K ⟨c.E, W', Γ, c.σ, H'⟩ → Stp c ⟨c.E, W', Γ, c.σ, H'⟩ → XRel K W' H' x cls d → Wx cls d c.σ H'
  | .stuck => False
section
variable {K : PySem.W.Frag} {Wx : WX} {α β : Type} {c : Cf} {r : Rs α}
theorem PoR.imp {P P' : α → Cf → Prop} (h : PoR K Wx c r P) (i : ∀ a c', Rel K c' → Stp c c' → c'.σ = c.σ → P a c' → P' a c') : PoR K Wx c r P' := by
  cases r with
  | ok a Γ => exact fun W' H' R S => i a _ R S rfl (h W' H' R S)
  | exn x Γ => exact h
  | stuck => exact h
theorem PoR.bind {f : α → List Slot → Rs β} {P : β → Cf → Prop} (h : PoR K Wx c (r.bind f) P) : PoR K Wx c r fun a c1 => PoR K Wx c1 (f a c1.Γ) P := by
  cases r with
  | ok a Γ =>
    intro W' H' R S
    have h' : PoR K Wx c (f a Γ) P := h
    show PoR K Wx ⟨c.E, W', Γ, c.σ, H'⟩ (f a Γ) P
    cases e : f a Γ with
    | ok b Γ2 =>
      rw [e] at h'
      exact fun W2 H2 R2 S2 => h' W2 H2 R2 (S.trans S2)
    | exn x Γ2 =>
      rw [e] at h'
      exact fun cls d W2 H2 R2 S2 => h' cls d W2 H2 R2 (S.trans S2)
    | stuck =>
      rw [e] at h'
      exact h'
  | exn x Γ => exact h
  | stuck => exact h
theorem PoR.bind0 {f : α → List Slot → Rs β} {P : β → Cf → Prop} (h : PoR K Wx c (r.bind f) P) : PoR K Wx c r fun a c1 => PoR K Wx c (f a c1.Γ) P := by
  cases r with
  | ok a Γ => exact fun W' H' R S => h
  | exn x Γ => exact h
  | stuck => exact h
theorem PoR.later {c1 : Cf} {P : α → Cf → Prop} (h : PoR K Wx c r P) (S : Stp c c1) (e : c1.σ = c.σ) : PoR K Wx c1 r P := by
  have eE := S.ent
  cases r with
  | ok a Γ =>
    intro W' H' R' S'
    rw [eE, e] at R' S' ⊢
    exact h W' H' R' (S.trans S')
  | exn x Γ =>
    intro cls d W' H' R' S' X
    rw [eE, e] at R' S'
    rw [e]
    exact h cls d W' H' R' (S.trans S') X
  | stuck => exact h
theorem PoR.at {a : α} {P : α → Cf → Prop} (R : Rel K c) (h : PoR K Wx c (.ok a c.Γ) P) : P a c := h c.W c.H R (Stp.refl c)
end

def den (K : PySem.W.Frag) (Wx : WX) (t : Tm) : TE := fun σ H Q => ∃ E W Γ, Rel K ⟨E, W, Γ, σ, H⟩ ∧ PoR K Wx ⟨E, W, Γ, σ, H⟩ (ev t Γ) fun l c' => ∀ v, VRel K ⟨E, W, Γ, σ, H⟩ c' v l → Q v c'.H
def denA (K : PySem.W.Frag) (Wx : WX) (t : Ta) : TA := fun σ H Q => ∃ E W Γ, Rel K ⟨E, W, Γ, σ, H⟩ ∧ PoR K Wx ⟨E, W, Γ, σ, H⟩ (evA t Γ) fun ls c' => ∀ vs, VRelA K ⟨E, W, Γ, σ, H⟩ c' vs ls → Q vs c'.H
def denT (K : PySem.W.Frag) (Wx : WX) (t : Tm) : TT := fun σ H Q => ∃ E W Γ, Rel K ⟨E, W, Γ, σ, H⟩ ∧ PoR K Wx ⟨E, W, Γ, σ, H⟩ (ev t Γ) fun l c' => ∃ b, l = .dat (.bl b) ∧ Q b c'.H

/-! ### weakenings of the layer's judgements -/
section
variable {X : Cx} {e : Expr}
theorem PE.imp {t t' : TE} (h : PE X e t) (i : ∀ σ H Q, t' σ H Q → t σ H Q) : PE X e t' := ⟨fun pins s σ H Q I w => h.run pins s σ H Q I (i σ H Q w)⟩
theorem PT.imp {t t' : TT} (h : PT X e t) (i : ∀ σ H Q, t' σ H Q → t σ H Q) : PT X e t' := ⟨fun pins s σ H Q I w => h.run pins s σ H Q I (i σ H Q w)⟩
theorem PW.imp {t t' : TT} (h : PW X e t) (i : ∀ σ H Q, t' σ H Q → t σ H Q) : PW X e t' := ⟨fun wh pins s σ H Q I w => h.run wh pins s σ H Q I (i σ H Q w)⟩
theorem PA.imp {es : List Expr} {t t' : TA} (h : PA X es t) (i : ∀ σ H Q, t' σ H Q → t σ H Q) : PA X es t' := ⟨fun pos pins s σ H Q I w => h.run pos pins s σ H Q I (i σ H Q w)⟩
theorem PS.imp {st : Stmt} {t t' : TS} (h : PS X st t) (i : ∀ D σ H, t' D σ H → t D σ H) : PS X st t' := ⟨fun pins s σ H D I w => h.run pins s σ H D I (i D σ H w)⟩
theorem PSs.imp {st : List Stmt} {t t' : TS} (h : PSs X st t) (i : ∀ D σ H, t' D σ H → t D σ H) : PSs X st t' := ⟨fun pins s σ H D I w => h.run pins s σ H D I (i D σ H w)⟩
end

/-! ### the readings -/
section
variable {K : PySem.W.Frag} {Wx : WX} {σ : St} {H : Hp} {Q : VK}
theorem den_var {i : Nat} (h : den K Wx (.var i) σ H Q) : tVar i σ H Q := by
  obtain ⟨E, W, Γ, R, h⟩ := h
  simp only [ev] at h
  cases g : Γ[i]? with
  | none => rw [g] at h; exact h.elim
  | some s =>
    rw [g] at h
    cases s with
    | no => exact h.elim
    | dat d =>
      obtain ⟨v, e1, e2⟩ := R.dat i d g
      exact ⟨v, e1, h.at R v (.dat e2)⟩
    | mt b d =>
      obtain ⟨a, e1, _⟩ := R.mt i b d g
      exact ⟨.ref a, e1, h.at R _ (.ref e1)⟩
    | lck b d =>
      obtain ⟨a, e1, _⟩ := R.lk i b d g
      exact ⟨.ref a, e1, h.at R _ (.ref e1)⟩
theorem den_con {d : D} {v : V} (hv : ∀ W, Dr K W v d) (h : den K Wx (.con d) σ H Q) : tC v σ H Q := by
  obtain ⟨E, W, Γ, R, h⟩ := h
  exact h.at R v (.dat (hv _))
theorem denA_nil {Q : List V → Hp → Prop} (h : denA K Wx .nil σ H Q) : tNil σ H Q := by
  obtain ⟨E, W, Γ, R, h⟩ := h
  exact h.at R [] .nil
theorem denA_cons {t : Tm} {r : Ta} {Q : List V → Hp → Prop} (h : denA K Wx (.cons t r) σ H Q) : tCons (den K Wx t) (denA K Wx r) σ H Q := by
  obtain ⟨E, W, Γ, R, h⟩ := h
  simp only [evA] at h
  refine ⟨E, W, Γ, R, h.bind.imp fun l c1 R1 S1 e1 h1 v V1 => ?_⟩
  obtain ⟨E1, W1, Γ1, σ1, H1⟩ := c1
  cases e1
  refine ⟨E1, W1, Γ1, R1, (PoR.bind h1).imp fun ls c2 R2 S2 e2 h2 vs V2 => ?_⟩
  refine PoR.at R2 h2 _ (.cons (V1.next S2 e2) (V2.back S1.back) fun d d' e m => ?_)
  subst e
  cases V1 with
  | new _ _ _ ha => exact ha.ne (V2.fresh m)
/-- what a built-in asks -/
def rP (K : PySem.W.Frag) (f : List D → Option Ou) (vs : List V) (H : Hp) (Q : VK) : Prop :=
  ∃ W ds o, Le W H ∧ TopA K W H vs ds ∧ f ds = some o ∧ ∀ v W' H', PSt W H W' H' → ORel K H W' H' v o → Q v H'
theorem ORel.vl {H W' H' : Hp} {v : V} {o : Ou} {c0 c c' : Cf} (h : ORel K H W' H' v o) (hH : c.H = H) (h1 : c'.W = W') (h2 : c'.H = H') (hm : c'.ad = c.ad) (R : Rel K c) (s : ∀ a, c.H a = none → c0.H a = none) : VRel K c0 c' v o.vl := by
  subst hH h1 h2
  cases h with
  | dat d => exact .dat d
  | new a b d =>
    refine .new (s _ a) b ?_ d
    rw [hm]
    intro z
    exact (R.ad_ne z).1 a
theorem den_prim {f : List D → Option Ou} {as : Ta} (h : den K Wx (.prim f as) σ H Q) : denA K Wx as σ H fun vs H2 => rP K f vs H2 Q := by
  obtain ⟨E, W, Γ, R, h⟩ := h
  simp only [ev] at h
  refine ⟨E, W, Γ, R, h.bind.imp fun ls c1 R1 S1 e1 h1 vs V1 => ?_⟩
  cases e : resA c1.Γ ls with
  | none => rw [e] at h1; exact h1.elim
  | some ds =>
    rw [e] at h1
    simp only at h1
    cases ef : f ds with
    | none => rw [ef] at h1; exact h1.elim
    | some o =>
      rw [ef] at h1
      refine ⟨c1.W, ds, o, R1.le, R1.topA V1 e, ef, fun v W' H' p q => ?_⟩
      obtain ⟨R2, S2⟩ := R1.pst p
      exact h1 W' H' R2 S2 v (q.vl (c := c1) rfl rfl rfl rfl R1 S1.back)
theorem denT_den {t : Tm} {Q : Bool → Hp → Prop} (h : denT K Wx t σ H Q) : den K Wx t σ H fun v H' => ∃ b, v = .bl b ∧ Q b H' := by
  obtain ⟨E, W, Γ, R, h⟩ := h
  refine ⟨E, W, Γ, R, h.imp fun l c1 R1 S1 e1 h1 v V => ?_⟩
  obtain ⟨b, rfl, q⟩ := h1
  cases V with
  | dat d => cases d; exact ⟨b, rfl, q⟩
theorem denT_and {a b : Tm} {Q : Bool → Hp → Prop} (h : denT K Wx (.and a b) σ H Q) : tAnd (denT K Wx a) (denT K Wx b) σ H Q := by
  obtain ⟨E, W, Γ, R, h⟩ := h
  simp only [ev] at h
  refine ⟨E, W, Γ, R, h.bind.imp fun l c1 R1 S1 e1 h1 => ?_⟩
  obtain ⟨E1, W1, Γ1, σ1, H1⟩ := c1
  cases e1
  split at h1
  · refine ⟨true, rfl, ?_⟩
    dsimp only
    rw [if_pos rfl]
    exact ⟨E1, W1, Γ1, R1, h1⟩
  · refine ⟨false, rfl, ?_⟩
    dsimp only
    rw [if_neg Bool.false_ne_true]
    obtain ⟨b, e, q⟩ := h1.at R1
    cases e
    exact q
  · exact h1.elim
theorem denT_or {a b : Tm} {Q : Bool → Hp → Prop} (h : denT K Wx (.or a b) σ H Q) : tOr (denT K Wx a) (denT K Wx b) σ H Q := by
  obtain ⟨E, W, Γ, R, h⟩ := h
  simp only [ev] at h
  refine ⟨E, W, Γ, R, h.bind.imp fun l c1 R1 S1 e1 h1 => ?_⟩
  obtain ⟨E1, W1, Γ1, σ1, H1⟩ := c1
  cases e1
  split at h1
  · refine ⟨true, rfl, ?_⟩
    dsimp only
    rw [if_pos rfl]
    obtain ⟨b, e, q⟩ := h1.at R1
    cases e
    exact q
  · refine ⟨false, rfl, ?_⟩
    dsimp only
    rw [if_neg Bool.false_ne_true]
    exact ⟨E1, W1, Γ1, R1, h1⟩
  · exact h1.elim
theorem denT_not {a : Tm} {Q : Bool → Hp → Prop} (h : denT K Wx (.not a) σ H Q) : tNot (denT K Wx a) σ H Q := by
  obtain ⟨E, W, Γ, R, h⟩ := h
  simp only [ev] at h
  refine ⟨E, W, Γ, R, h.bind.imp fun l c1 R1 S1 e1 h1 => ?_⟩
  split at h1
  · rename_i b
    obtain ⟨b', e, q⟩ := h1.at R1
    cases e
    exact ⟨b, rfl, q⟩
  · exact h1.elim
theorem den_ifx {c a b : Tm} (h : den K Wx (.ifx c a b) σ H Q) : tIf (denT K Wx c) (den K Wx a) (den K Wx b) σ H Q := by
  obtain ⟨E, W, Γ, R, h⟩ := h
  simp only [ev] at h
  refine ⟨E, W, Γ, R, h.bind.imp fun l c1 R1 S1 e1 h1 => ?_⟩
  obtain ⟨E1, W1, Γ1, σ1, H1⟩ := c1
  cases e1
  have bk : ∀ {r : Rs Vl}, PoR K Wx ⟨E1, W1, Γ1, σ, H1⟩ r (fun l c' => ∀ v, VRel K ⟨E, W, Γ, σ, H⟩ c' v l → Q v c'.H) → PoR K Wx ⟨E1, W1, Γ1, σ, H1⟩ r (fun l c' => ∀ v, VRel K ⟨E1, W1, Γ1, σ, H1⟩ c' v l → Q v c'.H) := fun {r} z => z.imp fun l c2 R2 S2 e2 h2 v V => h2 v (V.back S1.back)
  split at h1
  · refine ⟨true, rfl, ?_⟩
    dsimp only
    rw [if_pos rfl]
    exact ⟨E1, W1, Γ1, R1, bk h1⟩
  · refine ⟨false, rfl, ?_⟩
    dsimp only
    rw [if_neg Bool.false_ne_true]
    exact ⟨E1, W1, Γ1, R1, bk h1⟩
  · exact h1.elim
/-- and, or of truths as values -/
theorem den_and {a b : Tm} (h : den K Wx (.and a b) σ H Q) : tAndV (den K Wx a) (den K Wx b) σ H Q := by
  obtain ⟨E, W, Γ, R, h⟩ := h
  simp only [ev] at h
  refine ⟨E, W, Γ, R, h.bind.imp fun l c1 R1 S1 e1 h1 v V => ?_⟩
  obtain ⟨E1, W1, Γ1, σ1, H1⟩ := c1
  cases e1
  split at h1
  · cases V with
    | dat d =>
      cases d
      refine ⟨true, rfl, ?_⟩
      dsimp only
      rw [if_pos rfl]
      exact ⟨E1, W1, Γ1, R1, h1.imp fun l c2 R2 S2 e2 h2 v V => h2 v (V.back S1.back)⟩
  · cases V with
    | dat d =>
      cases d
      refine ⟨false, rfl, ?_⟩
      dsimp only
      rw [if_neg Bool.false_ne_true]
      exact h1.at R1 _ (.dat (.bl _))
  · exact h1.elim
theorem den_or {a b : Tm} (h : den K Wx (.or a b) σ H Q) : tOrV (den K Wx a) (den K Wx b) σ H Q := by
  obtain ⟨E, W, Γ, R, h⟩ := h
  simp only [ev] at h
  refine ⟨E, W, Γ, R, h.bind.imp fun l c1 R1 S1 e1 h1 v V => ?_⟩
  obtain ⟨E1, W1, Γ1, σ1, H1⟩ := c1
  cases e1
  split at h1
  · cases V with
    | dat d =>
      cases d
      refine ⟨true, rfl, ?_⟩
      dsimp only
      rw [if_pos rfl]
      exact h1.at R1 _ (.dat (.bl _))
  · cases V with
    | dat d =>
      cases d
      refine ⟨false, rfl, ?_⟩
      dsimp only
      rw [if_neg Bool.false_ne_true]
      exact ⟨E1, W1, Γ1, R1, h1.imp fun l c2 R2 S2 e2 h2 v V => h2 v (V.back S1.back)⟩
  · exact h1.elim
theorem den_not {a : Tm} (h : den K Wx (.not a) σ H Q) : tNotV (den K Wx a) σ H Q := by
  obtain ⟨E, W, Γ, R, h⟩ := h
  simp only [ev] at h
  refine ⟨E, W, Γ, R, h.bind.imp fun l c1 R1 S1 e1 h1 v V => ?_⟩
  split at h1
  · cases V with
    | dat d =>
      cases d
      exact ⟨_, rfl, h1.at R1 _ (.dat (.bl _))⟩
  · exact h1.elim
theorem den_chn {f g : List D → Option Ou} {a b c : Tm} (h : den K Wx (.chn f g a b c) σ H Q) :
    tChain (fun x y => rP K f [x, y]) (fun x y => rP K g [x, y]) (den K Wx a) (den K Wx b) (den K Wx c) σ H Q := by
  obtain ⟨E, W, Γ, R, h⟩ := h
  simp only [ev] at h
  refine ⟨E, W, Γ, R, h.bind.imp fun la c1 R1 S1 e1 h1 va Va => ?_⟩
  obtain ⟨E1, W1, Γ1, σ1, H1⟩ := c1
  cases e1
  obtain rfl : E1 = E := S1.ent
  dsimp only at h1
  refine ⟨E1, W1, Γ1, R1, (PoR.bind h1).imp fun lb c2 R2 S2 e2 h2 vb Vb => ?_⟩
  obtain ⟨E2, W2, Γ2, σ2, H2⟩ := c2
  cases e2
  obtain rfl : E2 = E1 := S2.ent
  dsimp only at h2
  have Vs : ∀ {l : Vl} {v : V} {c0 : Cf}, VRel K c0 ⟨E2, W2, Γ2, σ, H2⟩ v l → VRelA K c0 ⟨E2, W2, Γ2, σ, H2⟩ [v] [l] := fun {l v c0} z => .cons z .nil fun _ _ _ m => by simp at m
  have V2 : VRelA K ⟨E2, W, Γ, σ, H⟩ ⟨E2, W2, Γ2, σ, H2⟩ [va, vb] [la, lb] := by
    refine .cons (Va.next S2 rfl) (Vs (Vb.back S1.back)) fun d d' e m => ?_
    subst e
    cases Va with
    | new _ _ _ ha => exact ha.ne (VRelA.fresh (Vs Vb) m)
  cases er : resA Γ2 [la, lb] with
  | none => rw [er] at h2; exact h2.elim
  | some ds =>
    rw [er] at h2
    dsimp only at h2
    cases ef : f ds with
    | none => rw [ef] at h2; exact h2.elim
    | some o =>
      rw [ef] at h2
      refine ⟨W2, ds, o, R2.le, R2.topA V2 er, ef, fun v W3 H3 p3 q3 => ?_⟩
      obtain ⟨R3, S3⟩ := R2.pst p3
      dsimp only at R3 S3
      cases o with
      | new _ => exact h2.elim
      | dat d =>
        cases d with
        | bl k =>
          cases q3 with
          | dat q =>
            cases q
            refine ⟨k, rfl, ?_⟩
            cases k with
            | false =>
              dsimp only
              rw [if_neg Bool.false_ne_true]
              exact h2 W3 H3 R3 S3 _ (.dat (.bl _))
            | true =>
              dsimp only
              rw [if_pos rfl]
              dsimp only at h2
              have h3 := h2.later S3 rfl
              refine ⟨E2, W3, Γ2, R3, (PoR.bind h3).imp fun lc c4 R4 S4 e4 h4 vc Vc => ?_⟩
              obtain ⟨E4, W4, Γ4, σ4, H4⟩ := c4
              cases e4
              obtain rfl : E4 = E2 := S4.ent
              dsimp only at h4
              cases er2 : resA Γ4 [lb, lc] with
              | none => rw [er2] at h4; exact h4.elim
              | some es =>
                rw [er2] at h4
                dsimp only at h4
                cases eg : g es with
                | none => rw [eg] at h4; exact h4.elim
                | some o2 =>
                  rw [eg] at h4
                  have V4 : VRelA K ⟨E4, W1, Γ1, σ, H1⟩ ⟨E4, W4, Γ4, σ, H4⟩ [vb, vc] [lb, lc] := by
                    refine .cons ((Vb.next S3 rfl).next S4 rfl) (.cons (Vc.back (fun a z => S2.back a (S3.back a z))) .nil fun _ _ _ m => by simp at m) fun d d' e m => ?_
                    subst e
                    cases Vb.next S3 rfl with
                    | new _ _ _ ha => exact ha.ne (VRelA.fresh (c0 := ⟨E4, W3, Γ2, σ, H3⟩) (c := ⟨E4, W4, Γ4, σ, H4⟩) (.cons Vc .nil fun _ _ _ m => by simp at m) m)
                  refine ⟨W4, es, o2, R4.le, R4.topA V4 er2, eg, fun v5 W5 H5 p5 q5 => ?_⟩
                  obtain ⟨R5, S5⟩ := R4.pst p5
                  dsimp only at R5 S5
                  exact h4 W5 H5 R5 S5 v5 (q5.vl (c := ⟨E4, W4, Γ4, σ, H4⟩) rfl rfl rfl rfl R4 fun a z => S1.back a (S2.back a (S3.back a (S4.back a z))))
        | _ => exact h2.elim
end
end MP

end
-- MP3
section
/-! MP3: slots changed, things frozen, methods that change, calls of defs. -/
namespace MP
open PySem L2

theorem get_set {α : Type} {l : List α} {i j : Nat} {x y : α} (h : (l.set i x)[j]? = some y) : (j = i ∧ y = x ∧ i < l.length) ∨ (j ≠ i ∧ l[j]? = some y) := by
  by_cases e : i = j
  · subst e
    by_cases hl : i < l.length
    · rw [List.getElem?_set_self hl] at h
      cases h
      exact .inl ⟨rfl, rfl, hl⟩
    · rw [List.getElem?_eq_none (by simpa using hl)] at h
      cases h
  · rw [List.getElem?_set_ne e] at h
    exact .inr ⟨Ne.symm e, h⟩
theorem isM_set {Γ : List Slot} {i j : Nat} {s : Slot} (hs : ∀ b d, s ≠ .mt b d ∧ s ≠ .lck b d) (h : IsM (Γ.set i s) j) : j ≠ i ∧ IsM Γ j := by
  obtain ⟨b, d, h | h⟩ := h
  · rcases get_set h with ⟨_, e, _⟩ | ⟨n, e⟩
    · exact absurd e.symm (hs b d).1
    · exact ⟨n, b, d, .inl e⟩
  · rcases get_set h with ⟨_, e, _⟩ | ⟨n, e⟩
    · exact absurd e.symm (hs b d).2
    · exact ⟨n, b, d, .inr e⟩
theorem dat_nm (d0 : D) : ∀ b d, Slot.dat d0 ≠ .mt b d ∧ Slot.dat d0 ≠ .lck b d := fun _ _ => ⟨nofun, nofun⟩
theorem no_nm : ∀ b d, Slot.no ≠ .mt b d ∧ Slot.no ≠ .lck b d := fun _ _ => ⟨nofun, nofun⟩

section
variable {K : PySem.W.Frag} {c c0 : Cf}
/-- a name gets a datum -/
theorem Rel.setDat {i : Nat} {v : V} {d : D} (R : Rel K c) (hd : Dr K c.W v d) (hi : i < c.Γ.length) :
    Rel K ⟨c.E, c.W, c.Γ.set i (.dat d), c.σ.set i (some v), c.H⟩ ∧ Stp c ⟨c.E, c.W, c.Γ.set i (.dat d), c.σ.set i (some v), c.H⟩ := by
  have ne : ∀ {j a}, IsM (c.Γ.set i (.dat d)) j → (c.σ.set i (some v))[j]? = some (some (.ref a)) → IsM c.Γ j ∧ c.σ[j]? = some (some (V.ref a)) := fun {j a} hj e => by
    obtain ⟨n, m⟩ := isM_set (dat_nm d) hj
    rw [List.getElem?_set_ne (Ne.symm n)] at e
    exact ⟨m, e⟩
  refine ⟨⟨by simp [R.len], R.le, R.ent, fun j d' g => ?_, fun j b d' g => ?_, fun j k a h1 h2 e1 e2 => ?_⟩, ⟨rfl, Ex.refl _, fun _ _ h _ => h, fun _ h => h, fun _ h => .inl h, fun a h => ?_, fun a h => ?_, fun j b d' g => ?_, fun j d' g => ?_⟩⟩
  · rcases get_set g with ⟨e1, e2, _⟩ | ⟨n, e⟩
    · subst e1
      cases e2
      exact ⟨v, by show (c.σ.set j (some v))[j]? = _; rw [List.getElem?_set_self (by rw [← R.len]; exact hi)], hd⟩
    · obtain ⟨v', e1, e2⟩ := R.dat j d' e
      exact ⟨v', by show (c.σ.set i (some v))[j]? = _; rw [List.getElem?_set_ne (Ne.symm n)]; exact e1, e2⟩
  · have g' : j ≠ i ∧ (c.Γ[j]? = some (.mt b d') ∨ c.Γ[j]? = some (.lck b d')) := by
      rcases g with g | g
      · rcases get_set g with ⟨_, e, _⟩ | ⟨n, e⟩
        · cases e
        · exact ⟨n, .inl e⟩
      · rcases get_set g with ⟨_, e, _⟩ | ⟨n, e⟩
        · cases e
        · exact ⟨n, .inr e⟩
    obtain ⟨a, e1, e2⟩ := R.am j b d' g'.2
    exact ⟨a, by show (c.σ.set i (some v))[j]? = _; rw [List.getElem?_set_ne (Ne.symm g'.1)]; exact e1, e2⟩
  · obtain ⟨m1, z1⟩ := ne h1 e1
    obtain ⟨m2, z2⟩ := ne h2 e2
    exact R.dist j k a m1 m2 z1 z2
  · obtain ⟨j, b, d', g, e⟩ := h
    rcases get_set g with ⟨_, z, _⟩ | ⟨n, z⟩
    · cases z
    · have e' : (c.σ.set i (some v))[j]? = some (some (V.ref a)) := e
      rw [List.getElem?_set_ne (Ne.symm n)] at e'
      exact .inl ⟨j, b, d', z, e'⟩
  · obtain ⟨j, g, e⟩ := h
    obtain ⟨m, z⟩ := ne g e
    exact .inl ⟨j, m, z⟩
  · rcases get_set g with ⟨_, z, _⟩ | ⟨n, z⟩
    · cases z
    · exact ⟨⟨d', z⟩, List.getElem?_set_ne (Ne.symm n)⟩
  · rcases get_set g with ⟨_, z, _⟩ | ⟨n, z⟩
    · cases z
    · exact ⟨⟨d', z⟩, List.getElem?_set_ne (Ne.symm n)⟩
/-- a name gets a new thing -/
theorem Rel.setNew {i : Nat} {a : Addr} {d : D} (R : Rel K c) (S : Stp c0 c) (h0 : c0.H a = none) (hE : c.E a = none) (hW : c.W a = none) (hA : ¬ c.ad a) (hd : MutAt K c.W c.H a d) (hi : i < c.Γ.length) :
    Rel K ⟨c.E, c.W, c.Γ.set i (.mt true d), c.σ.set i (some (.ref a)), c.H⟩ ∧ Stp c0 ⟨c.E, c.W, c.Γ.set i (.mt true d), c.σ.set i (some (.ref a)), c.H⟩ := by
  have hs : (c.σ.set i (some (V.ref a)))[i]? = some (some (.ref a)) := List.getElem?_set_self (by rw [← R.len]; exact hi)
  have cs : ∀ {j x}, IsM (c.Γ.set i (.mt true d)) j → (c.σ.set i (some (V.ref a)))[j]? = some (some (.ref x)) → (j = i ∧ x = a) ∨ (j ≠ i ∧ IsM c.Γ j ∧ c.σ[j]? = some (some (V.ref x))) := fun {j x} hj e => by
    by_cases hji : j = i
    · subst hji
      rw [hs] at e
      cases e
      exact .inl ⟨rfl, rfl⟩
    · rw [List.getElem?_set_ne (Ne.symm hji)] at e
      obtain ⟨b, d', g⟩ := hj
      rw [List.getElem?_set_ne (Ne.symm hji)] at g
      exact .inr ⟨hji, ⟨b, d', g⟩, e⟩
  refine ⟨⟨by simp [R.len], R.le, R.ent, fun j d' g => ?_, fun j b d' g => ?_, fun j k x h1 h2 e1 e2 => ?_⟩, ⟨S.ent, S.w, S.fr, S.th, S.nw, fun x h => ?_, fun x h => ?_, fun j b d' g => ?_, fun j d' g => ?_⟩⟩
  · rcases get_set g with ⟨_, e2, _⟩ | ⟨n, e⟩
    · cases e2
    · obtain ⟨v', e1, e2⟩ := R.dat j d' e
      exact ⟨v', by show (c.σ.set i (some (V.ref a)))[j]? = _; rw [List.getElem?_set_ne (Ne.symm n)]; exact e1, e2⟩
  · have g' : (j = i ∧ b = true ∧ d' = d) ∨ (j ≠ i ∧ (c.Γ[j]? = some (.mt b d') ∨ c.Γ[j]? = some (.lck b d'))) := by
      rcases g with g | g
      · rcases get_set g with ⟨e0, e, _⟩ | ⟨n, e⟩
        · cases e
          exact .inl ⟨e0, rfl, rfl⟩
        · exact .inr ⟨n, .inl e⟩
      · rcases get_set g with ⟨_, e, _⟩ | ⟨n, e⟩
        · cases e
        · exact .inr ⟨n, .inr e⟩
    rcases g' with ⟨rfl, rfl, rfl⟩ | ⟨n, g'⟩
    · exact ⟨a, hs, hW, hd, fun _ => hE⟩
    · obtain ⟨x, e1, e2⟩ := R.am j b d' g'
      exact ⟨x, by show (c.σ.set i (some (V.ref a)))[j]? = _; rw [List.getElem?_set_ne (Ne.symm n)]; exact e1, e2⟩
  · rcases cs h1 e1 with ⟨j1, x1⟩ | ⟨j1, m1, z1⟩
    · rcases cs h2 e2 with ⟨j2, x2⟩ | ⟨j2, m2, z2⟩
      · rw [j1, j2]
      · subst x1
        exact absurd ⟨k, m2, z2⟩ hA
    · rcases cs h2 e2 with ⟨j2, x2⟩ | ⟨j2, m2, z2⟩
      · subst x2
        exact absurd ⟨j, m1, z1⟩ hA
      · exact R.dist j k x m1 m2 z1 z2
  · obtain ⟨j, b, d', g, e⟩ := h
    rcases cs ⟨b, d', .inl g⟩ e with ⟨_, x1⟩ | ⟨n, _, z1⟩
    · subst x1
      exact .inr h0
    · rw [List.getElem?_set_ne (Ne.symm n)] at g
      exact S.mu x ⟨j, b, d', g, z1⟩
  · obtain ⟨j, g, e⟩ := h
    rcases cs g e with ⟨_, x1⟩ | ⟨n, m, z1⟩
    · subst x1
      exact .inr h0
    · exact S.ad x ⟨j, m, z1⟩
  · rcases get_set g with ⟨_, z, _⟩ | ⟨n, z⟩
    · cases z
    · obtain ⟨y, e⟩ := S.lk j b d' z
      exact ⟨y, by show (c.σ.set i (some (V.ref a)))[j]? = _; rw [List.getElem?_set_ne (Ne.symm n)]; exact e⟩
  · rcases get_set g with ⟨_, z, _⟩ | ⟨n, z⟩
    · cases z
    · obtain ⟨y, e⟩ := S.io j d' z
      exact ⟨y, by show (c.σ.set i (some (V.ref a)))[j]? = _; rw [List.getElem?_set_ne (Ne.symm n)]; exact e⟩

/-- the world with one thing more -/
theorem ex_upd {W : Hp} {a : Addr} {o : HO} (h : W a = none) : Ex W (upd W a o) := Ex.new h
theorem le_upd {W H : Hp} {a : Addr} {o : HO} (l : Le W H) (h : H a = some o) : Le (upd W a o) H := fun b u e => by
  by_cases q : b = a
  · subst q
    rw [upd_same] at e
    cases e
    exact .inl h
  · rw [upd_ne q] at e
    exact l b u e
theorem upd_nn {W : Hp} {a b : Addr} {o : HO} (h : upd W a o b ≠ none) : b = a ∨ W b ≠ none := by
  by_cases q : b = a
  · exact .inl q
  · rw [upd_ne q] at h
    exact .inr h
/-- a given thing is kept: it is frozen -/
theorem Rel.esc {v : V} {l : Vl} {d : D} {Γ' : List Slot} (R : Rel K c) (S : Stp c0 c) (V : VRel K c0 c v l) (e : esc l c.Γ = .ok d Γ') :
    ∃ W', Rel K ⟨c.E, W', Γ', c.σ, c.H⟩ ∧ Stp c0 ⟨c.E, W', Γ', c.σ, c.H⟩ ∧ Dr K W' v d ∧ Ex c.W W' ∧ (∀ x, W' x = c.W x ∨ W' x = c.H x) ∧ ∀ i, IsM Γ' i → IsM c.Γ i := by
  cases V with
  | dat q =>
    simp only [MP.esc] at e
    cases e
    exact ⟨c.W, R, S, q, Ex.refl _, fun a => .inl rfl, fun _ h => h⟩
  | @new a d' h0 hw hm ha =>
    simp only [MP.esc] at e
    cases e
    obtain ⟨o, ho, hD⟩ := ha.there
    have ne : ∀ x, c.ad x → x ≠ a := fun x hx z => hm (z ▸ hx)
    refine ⟨upd c.W a o, ⟨R.len, le_upd R.le ho, R.ent, fun i d g => ?_, fun i b d g => ?_, R.dist⟩, ⟨S.ent, S.w.trans (ex_upd hw), S.fr, S.th, fun x h => ?_, S.mu, S.ad, S.lk, S.io⟩, hD _ upd_same (ex_upd hw), ex_upd hw, fun x => ?_, fun _ h => h⟩
    · obtain ⟨v, e1, e2⟩ := R.dat i d g
      exact ⟨v, e1, e2.mono (ex_upd hw)⟩
    · obtain ⟨x, e1, e2, e3, e4⟩ := R.am i b d g
      exact ⟨x, e1, by show upd c.W a o x = none; rw [upd_ne (ne x ⟨i, ⟨b, d, g⟩, e1⟩)]; exact e2, e3.mono (ex_upd hw) fun _ z => z, e4⟩
    · rcases upd_nn h with z | z
      · subst z
        exact .inr (.inl h0)
      · exact S.nw x z
    · by_cases z : x = a
      · subst z
        exact .inr (by rw [upd_same, ho])
      · exact .inl (upd_ne z)
  | @ref i q =>
    simp only [MP.esc] at e
    cases g : c.Γ[q]? with
    | none => rw [g] at e; cases e
    | some s =>
      rw [g] at e
      cases s with
      | no => cases e
      | lck b d' => cases e
      | dat d' =>
        cases e
        obtain ⟨v', e1, e2⟩ := R.dat _ _ g
        rename_i hq
        rw [hq] at e1
        cases e1
        exact ⟨c.W, R, S, e2, Ex.refl _, fun a => .inl rfl, fun _ h => h⟩
      | mt b d' =>
        cases e
        obtain ⟨a, e1, hw, ha, e4⟩ := R.mt _ _ _ g
        rename_i hq
        rw [hq] at e1
        cases e1
        obtain ⟨o, ho, hD⟩ := ha.there
        have mq : IsM c.Γ q := ⟨_, _, .inl g⟩
        have lt : q < c.Γ.length := (List.getElem?_eq_some_iff.mp g).1
        refine ⟨upd c.W a o, ⟨by simp [R.len], le_upd R.le ho, R.ent, fun i d g' => ?_, fun i b d g' => ?_, fun i j x h1 h2 z1 z2 => R.dist i j x (isM_set (dat_nm _) h1).2 (isM_set (dat_nm _) h2).2 z1 z2⟩,
          ⟨S.ent, S.w.trans (ex_upd hw), S.fr, S.th, fun x h => ?_, fun x h => ?_, fun x h => ?_, fun j b' d'' g' => ?_, fun j d'' g' => ?_⟩, hD _ upd_same (ex_upd hw), ex_upd hw, fun x => ?_, fun i h => (isM_set (dat_nm _) h).2⟩
        · rcases get_set g' with ⟨z1, z2, _⟩ | ⟨n, z⟩
          · subst z1
            cases z2
            exact ⟨_, hq, hD _ upd_same (ex_upd hw)⟩
          · obtain ⟨v, z1, z2⟩ := R.dat i d z
            exact ⟨v, z1, z2.mono (ex_upd hw)⟩
        · have g2 : i ≠ q ∧ (c.Γ[i]? = some (.mt b d) ∨ c.Γ[i]? = some (.lck b d)) := by
            rcases g' with g' | g'
            · rcases get_set g' with ⟨_, z, _⟩ | ⟨n, z⟩
              · cases z
              · exact ⟨n, .inl z⟩
            · rcases get_set g' with ⟨_, z, _⟩ | ⟨n, z⟩
              · cases z
              · exact ⟨n, .inr z⟩
          obtain ⟨x, z1, z2, z3, z4⟩ := R.am i b d g2.2
          refine ⟨x, z1, ?_, z3.mono (ex_upd hw) fun _ z => z, z4⟩
          show upd c.W a o x = none
          rw [upd_ne (fun z : x = a => g2.1 (R.dist i q a ⟨_, _, g2.2⟩ mq (z ▸ z1) hq))]
          exact z2
        · rcases upd_nn h with z | z
          · subst z
            rcases S.mu x ⟨q, b, _, g, hq⟩ with m | m
            · exact .inr (.inr m)
            · exact .inr (.inl m)
          · exact S.nw x z
        · obtain ⟨j, b', d'', g', z⟩ := h
          rcases get_set g' with ⟨_, y, _⟩ | ⟨n, y⟩
          · cases y
          · exact S.mu x ⟨j, b', d'', y, z⟩
        · obtain ⟨j, g', z⟩ := h
          exact S.ad x ⟨j, (isM_set (dat_nm _) g').2, z⟩
        · rcases get_set g' with ⟨_, y, _⟩ | ⟨n, y⟩
          · cases y
          · exact S.lk j b' d'' y
        · rcases get_set g' with ⟨_, y, _⟩ | ⟨n, y⟩
          · cases y
          · exact S.io j d'' y
        · by_cases z : x = a
          · subst z
            exact .inr (by rw [upd_same, ho])
          · exact .inl (upd_ne z)
/-- .. or a new thing that is frozen by now -/
def WV (K : PySem.W.Frag) (c0 c : Cf) (v : V) (l : Vl) : Prop := VRel K c0 c v l ∨ ∃ d, l = .new d ∧ Dr K c.W v d
inductive WVA (K : PySem.W.Frag) (c0 c : Cf) : List V → List Vl → Prop
  | nil : WVA K c0 c [] []
  | cons {v : V} {vs : List V} {l : Vl} {ls : List Vl} : WV K c0 c v l → WVA K c0 c vs ls → WVA K c0 c (v :: vs) (l :: ls)
theorem VRelA.wv : ∀ {vs : List V} {ls : List Vl}, VRelA K c0 c vs ls → WVA K c0 c vs ls
  | _, _, .nil => .nil
  | _, _, .cons h r _ => .cons (.inl h) r.wv
theorem WV.more {Γ' : List Slot} {W' : Hp} {v : V} {l : Vl} (h : WV K c0 c v l) (x : Ex c.W W') (hx : ∀ a, W' a = c.W a ∨ W' a = c.H a) (hm : ∀ i, IsM Γ' i → IsM c.Γ i) : WV K c0 ⟨c.E, W', Γ', c.σ, c.H⟩ v l := by
  rcases h with h | ⟨d, e, h⟩
  · cases h with
    | dat q => exact .inl (.dat (q.mono x))
    | ref q => exact .inl (.ref q)
    | @new a d h0 hw hn ha =>
      rcases hx a with z | z
      · exact .inl (.new h0 (z.trans hw) (fun ⟨i, g, e⟩ => hn ⟨i, hm i g, e⟩) (ha.mono x fun _ y => y))
      · obtain ⟨o, ho, hD⟩ := ha.there
        exact .inr ⟨d, rfl, hD W' (z.trans ho) x⟩
  · exact .inr ⟨d, e, h.mono x⟩
theorem WVA.more {Γ' : List Slot} {W' : Hp} (x : Ex c.W W') (hx : ∀ a, W' a = c.W a ∨ W' a = c.H a) (hm : ∀ i, IsM Γ' i → IsM c.Γ i) : ∀ {vs : List V} {ls : List Vl}, WVA K c0 c vs ls → WVA K c0 ⟨c.E, W', Γ', c.σ, c.H⟩ vs ls
  | _, _, .nil => .nil
  | _, _, .cons h r => .cons (h.more x hx hm) (r.more x hx hm)
theorem Rel.escW {v : V} {l : Vl} {d : D} {Γ' : List Slot} (R : Rel K c) (S : Stp c0 c) (V : WV K c0 c v l) (e : MP.esc l c.Γ = .ok d Γ') :
    ∃ W', Rel K ⟨c.E, W', Γ', c.σ, c.H⟩ ∧ Stp c0 ⟨c.E, W', Γ', c.σ, c.H⟩ ∧ Dr K W' v d ∧ Ex c.W W' ∧ (∀ x, W' x = c.W x ∨ W' x = c.H x) ∧ ∀ i, IsM Γ' i → IsM c.Γ i := by
  rcases V with V | ⟨d', e', V⟩
  · exact R.esc S V e
  · subst e'
    simp only [MP.esc] at e
    cases e
    exact ⟨c.W, R, S, V, Ex.refl _, fun a => .inl rfl, fun _ h => h⟩
theorem esc_ne {l : Vl} {Γ Γ' : List Slot} {x : Xn} (e : MP.esc l Γ = .exn x Γ') : False := by
  unfold MP.esc at e
  split at e
  · cases e
  · cases e
  · split at e <;> cases e
theorem escA_ne : ∀ {ls : List Vl} {Γ Γ' : List Slot} {x : Xn}, escA ls Γ = .exn x Γ' → False
  | [], _, _, _, e => by simp only [escA] at e; cases e
  | l :: ls, Γ, Γ', x, e => by
    simp only [escA] at e
    cases e1 : MP.esc l Γ with
    | stuck => rw [e1] at e; cases e
    | exn y Γ1 => exact esc_ne e1
    | ok d Γ1 =>
      rw [e1] at e
      simp only [Rs.bind] at e
      cases e2 : escA ls Γ1 with
      | stuck => rw [e2] at e; cases e
      | exn y Γ2 => exact escA_ne e2
      | ok ds Γ2 => rw [e2] at e; cases e
theorem Rel.escA : ∀ {ls : List Vl} {c : Cf} {vs : List V} {ds : List D} {Γ' : List Slot}, Rel K c → Stp c0 c → WVA K c0 c vs ls → MP.escA ls c.Γ = .ok ds Γ' →
    ∃ W', Rel K ⟨c.E, W', Γ', c.σ, c.H⟩ ∧ Stp c0 ⟨c.E, W', Γ', c.σ, c.H⟩ ∧ DrA K W' vs ds ∧ Ex c.W W' ∧ (∀ x, W' x = c.W x ∨ W' x = c.H x) ∧ ∀ i, IsM Γ' i → IsM c.Γ i
  | [], c, _, ds, Γ', R, S, .nil, e => by
    simp only [MP.escA] at e
    cases e
    exact ⟨c.W, R, S, .nil, Ex.refl _, fun a => .inl rfl, fun _ h => h⟩
  | l :: ls, c, _, ds, Γ', R, S, .cons h r, e => by
    simp only [MP.escA] at e
    cases e1 : MP.esc l c.Γ with
    | stuck => rw [e1] at e; cases e
    | exn y Γ1 => exact (esc_ne e1).elim
    | ok d Γ1 =>
      rw [e1] at e
      simp only [Rs.bind] at e
      obtain ⟨W1, R1, S1, d1, x1, y1, m1⟩ := R.escW S h e1
      cases e2 : MP.escA ls Γ1 with
      | stuck => rw [e2] at e; cases e
      | exn y Γ2 => exact (escA_ne e2).elim
      | ok ds' Γ2 =>
        rw [e2] at e
        cases e
        obtain ⟨W2, R2, S2, d2, x2, y2, m2⟩ := Rel.escA (c := ⟨c.E, W1, Γ1, c.σ, c.H⟩) R1 S1 (r.more x1 y1 m1) e2
        refine ⟨W2, R2, S2, .cons (d1.mono x2) d2, x1.trans x2, fun x => ?_, fun i h => m1 i (m2 i h)⟩
        rcases y2 x with z | z
        · rcases y1 x with y | y
          · exact .inl (z.trans y)
          · exact .inr (z.trans y)
        · exact .inr z
end

/-! ### methods that change the thing of a slot -/
structure MSt (K : PySem.W.Frag) (W H : Hp) (a : Addr) (d' : D) (W' H' : Hp) : Prop where
  w : Ex W W'
  le : Le W' H'
  fr : ∀ b o, H b = some o → b ≠ a → H' b = some o
  at_ : MutAt K W' H' a d'
  out : W' a = none
  nw : ∀ b, W' b ≠ none → W b ≠ none ∨ H b = none
def rM (K : PySem.W.Frag) (f : D → List D → Option (D × Ou)) (x : V) (vs : List V) (H : Hp) (Q : VK) : Prop :=
  ∃ a W d ds d' o, x = .ref a ∧ W a = none ∧ Le W H ∧ MutAt K W H a d ∧ DrA K W vs ds ∧ f d ds = some (d', o) ∧ ∀ v W' H', MSt K W H a d' W' H' → ORel K H W' H' v o → Q v H'
section
variable {K : PySem.W.Frag} {Wx : WX} {σ : St} {H : Hp} {Q : VK} {c : Cf}
theorem Rel.mst {i : Nat} {b : Bool} {d d' : D} {a : Addr} {W' H' : Hp} (R : Rel K c) (g : c.Γ[i]? = some (.mt b d)) (e : c.σ[i]? = some (some (.ref a))) (m : MSt K c.W c.H a d' W' H') :
    Rel K ⟨c.E, W', c.Γ.set i (.mt b d'), c.σ, H'⟩ ∧ Stp c ⟨c.E, W', c.Γ.set i (.mt b d'), c.σ, H'⟩ := by
  have lt : i < c.Γ.length := (List.getElem?_eq_some_iff.mp g).1
  have mi : IsM c.Γ i := ⟨b, d, .inl g⟩
  have th : ∀ x, c.H x ≠ none → H' x ≠ none := fun x h => by
    by_cases q : x = a
    · subst q; exact m.at_.ne
    · obtain ⟨o, z⟩ := ne_none h
      rw [m.fr x o z q]; exact nofun
  have ims : ∀ {j}, IsM (c.Γ.set i (.mt b d')) j → IsM c.Γ j := fun {j} h => by
    by_cases q : j = i
    · subst q; exact mi
    · obtain ⟨b', e', h⟩ := h
      rw [List.getElem?_set_ne (Ne.symm q)] at h
      exact ⟨b', e', h⟩
  refine ⟨⟨by simp [R.len], m.le, fun x h => th x (R.ent x h), fun j e' g' => ?_, fun j b' e' g' => ?_, fun j k x h1 h2 => R.dist j k x (ims h1) (ims h2)⟩, ⟨rfl, m.w, fun x o h n => ?_, th, fun x h => ?_, fun x h => ?_, fun x h => ?_, fun j b' e' g' => ?_, fun j e' g' => ?_⟩⟩
  · rcases get_set g' with ⟨_, z, _⟩ | ⟨n, z⟩
    · cases z
    · obtain ⟨v, z1, z2⟩ := R.dat j e' z
      exact ⟨v, z1, z2.mono m.w⟩
  · by_cases q : j = i
    · subst q
      have z : b' = b ∧ e' = d' := by
        rcases g' with g' | g'
        · rw [List.getElem?_set_self lt] at g'; cases g'; exact ⟨rfl, rfl⟩
        · rw [List.getElem?_set_self lt] at g'; cases g'
      obtain ⟨rfl, rfl⟩ := z
      obtain ⟨a', z1, z2, z3, z4⟩ := R.mt _ _ _ g
      rw [e] at z1
      cases z1
      exact ⟨a, e, m.out, m.at_, z4⟩
    · have g2 : c.Γ[j]? = some (.mt b' e') ∨ c.Γ[j]? = some (.lck b' e') := by
        rw [List.getElem?_set_ne (Ne.symm q)] at g'
        exact g'
      obtain ⟨x, z1, z2, z3, z4⟩ := R.am j b' e' g2
      have hx : x ≠ a := fun z => q (R.dist j i a ⟨b', e', g2⟩ mi (z ▸ z1) e)
      refine ⟨x, z1, ?_, z3.mono m.w fun o z => m.fr x o z hx, z4⟩
      show W' x = none
      by_cases y : W' x = none
      · exact y
      · rcases m.nw x y with z | z
        · exact absurd z2 z
        · exact absurd z z3.ne
  · exact m.fr x o h fun z => n ⟨i, b, d, g, z ▸ e⟩
  · rcases m.nw x h with z | z
    · exact .inl z
    · exact .inr (.inl z)
  · obtain ⟨j, b', e', g', z⟩ := h
    by_cases q : j = i
    · subst q
      exact .inl ⟨j, b, d, g, z⟩
    · rw [List.getElem?_set_ne (Ne.symm q)] at g'
      exact .inl ⟨j, b', e', g', z⟩
  · obtain ⟨j, g', z⟩ := h
    exact .inl ⟨j, ims g', z⟩
  · rcases get_set g' with ⟨_, z, _⟩ | ⟨n, z⟩
    · cases z
    · exact ⟨⟨e', z⟩, rfl⟩
  · rcases get_set g' with ⟨z0, z, _⟩ | ⟨n, z⟩
    · subst z0
      cases z
      exact ⟨⟨d, g⟩, rfl⟩
    · exact ⟨⟨e', z⟩, rfl⟩
/-- a display: its parts are kept -/
def rK (K : PySem.W.Frag) (f : List D → Option Ou) (vs : List V) (H : Hp) (Q : VK) : Prop :=
  ∃ W ds o, Le W H ∧ DrA K W vs ds ∧ f ds = some o ∧ ∀ v W' H', PSt W H W' H' → ORel K H W' H' v o → Q v H'
theorem den_mk {f : List D → Option Ou} {as : Ta} (h : den K Wx (.mk f as) σ H Q) : denA K Wx as σ H fun vs H2 => rK K f vs H2 Q := by
  obtain ⟨E, W, Γ, R, h⟩ := h
  simp only [ev] at h
  refine ⟨E, W, Γ, R, h.bind0.imp fun ls c1 R1 S1 es h1 vs V1 => ?_⟩
  obtain ⟨E1, W1, Γ1, σ1, H1⟩ := c1
  cases es
  obtain rfl : E1 = E := S1.ent
  dsimp only at h1
  cases ee : escA ls Γ1 with
  | stuck => rw [ee] at h1; exact h1.elim
  | exn x Γ2 => exact (escA_ne ee).elim
  | ok ds Γ2 =>
    rw [ee] at h1
    simp only [Rs.bind] at h1
    obtain ⟨W2, R2, S2, d2, x2, y2, m2⟩ := Rel.escA R1 S1 V1.wv ee
    cases ef : f ds with
    | none => rw [ef] at h1; exact h1.elim
    | some o =>
      rw [ef] at h1
      refine ⟨W2, ds, o, R2.le, d2, ef, fun v W' H' p q => ?_⟩
      obtain ⟨R3, S3⟩ := R2.pst p
      exact h1 W' H' R3 (S2.trans S3) v (q.vl (c := ⟨E1, W2, Γ2, σ, H1⟩) rfl rfl rfl rfl R2 S1.back)
theorem den_mth {k : D → Bool} {f : D → List D → Option (D × Ou)} {i : Nat} {as : Ta} (h : den K Wx (.mth k f i as) σ H Q) :
    ∃ a W d, σ[i]? = some (some (.ref a)) ∧ MutAt K W H a d ∧ k d = true ∧ denA K Wx as σ H fun vs H2 => rM K f (.ref a) vs H2 Q := by
  obtain ⟨E, W, Γ, R, h⟩ := h
  simp only [ev] at h
  cases g : Γ[i]? with
  | none => rw [g] at h; exact h.elim
  | some s =>
    rw [g] at h
    cases s with
    | no => exact h.elim
    | dat d => exact h.elim
    | lck b d => exact h.elim
    | mt b0 d0 =>
      simp only at h
      split at h
      · rename_i hk
        obtain ⟨a, e1, _, e3, _⟩ := R.mt i b0 d0 g
        refine ⟨a, W, d0, e1, e3, hk, E, W, Γ, R, h.bind0.imp fun ls c1 R1 S1 es h1 vs V1 => ?_⟩
        obtain ⟨E1, W1, Γ1, σ1, H1⟩ := c1
        cases es
        obtain rfl : E1 = E := S1.ent
        dsimp only at h1
        cases ee : escA ls Γ1 with
        | stuck => rw [ee] at h1; exact h1.elim
        | exn x Γ2 => exact (escA_ne ee).elim
        | ok ds Γ2 =>
          rw [ee] at h1
          simp only [Rs.bind] at h1
          obtain ⟨W2, R2, S2, d2, x2, y2, m2⟩ := Rel.escA R1 S1 V1.wv ee
          cases g2 : Γ2[i]? with
          | none => rw [g2] at h1; exact h1.elim
          | some s2 =>
            rw [g2] at h1
            cases s2 with
            | no => exact h1.elim
            | dat d => exact h1.elim
            | lck b d => exact h1.elim
            | mt b d =>
              simp only at h1
              cases ef : f d ds with
              | none => rw [ef] at h1; exact h1.elim
              | some p =>
                obtain ⟨d', o⟩ := p
                rw [ef] at h1
                obtain ⟨a', z1, z2, z3, z4⟩ := R2.mt i b d g2
                have za : σ[i]? = some (some (V.ref a')) := z1
                rw [e1] at za
                cases za
                refine ⟨a, W2, d, ds, d', o, rfl, z2, R2.le, z3, d2, ef, fun v W' H' m q => ?_⟩
                obtain ⟨R3, S3⟩ := R2.mst g2 z1 m
                refine h1 W' H' R3 (S2.trans S3) v ?_
                cases q with
                | dat q => exact .dat q
                | @new x _ y1 y2 y3 =>
                  refine .new (S1.back _ y1) y2 (fun z => ?_) y3
                  rcases S3.ad _ z with w | w
                  · exact (R2.ad_ne w).1 y1
                  · have : H1 x = none := w
                    obtain ⟨j, ⟨b', e', g'⟩, ej⟩ := z
                    by_cases qj : j = i
                    · subst qj
                      have ej' : σ[j]? = some (some (V.ref x)) := ej
                      rw [e1] at ej'
                      cases ej'
                      exact z3.ne y1
                    · rw [List.getElem?_set_ne (Ne.symm qj)] at g'
                      obtain ⟨x', w1, w2, w3, w4⟩ := R2.am j b' e' g'
                      have ej' : σ[j]? = some (some (V.ref x)) := ej
                      have w1' : σ[j]? = some (some (V.ref x')) := w1
                      rw [ej'] at w1'
                      cases w1'
                      exact w3.ne y1
      · exact h.elim
end
end MP

end
-- MP4
section
/-! MP4: a def's promise by its function; the reading of a call. -/
namespace MP
open PySem L2
def ioA : List Bool → List V → List Addr
  | true :: bs, .ref a :: vs => a :: ioA bs vs
  | _ :: bs, _ :: vs => ioA bs vs
  | _, _ => []
inductive ArgR (K : PySem.W.Frag) (W H : Hp) : List Bool → List V → List D → Prop
  | nil : ArgR K W H [] [] []
  | dat {v : V} {d : D} {bs : List Bool} {vs : List V} {ds : List D} : Dr K W v d → ArgR K W H bs vs ds → ArgR K W H (false :: bs) (v :: vs) (d :: ds)
  | io {a : Addr} {d : D} {bs : List Bool} {vs : List V} {ds : List D} : W a = none → MutAt K W H a d → ArgR K W H bs vs ds → ArgR K W H (true :: bs) (.ref a :: vs) (d :: ds)
theorem ArgR.length {K : PySem.W.Frag} {W H : Hp} : ∀ {bs : List Bool} {vs : List V} {ds : List D}, ArgR K W H bs vs ds → vs.length = bs.length ∧ ds.length = bs.length
  | _, _, _, .nil => ⟨rfl, rfl⟩
  | _, _, _, .dat _ r => by simp [r.length.1, r.length.2]
  | _, _, _, .io _ _ r => by simp [r.length.1, r.length.2]
structure FSt (W H : Hp) (A : List Addr) (W' H' : Hp) : Prop where
  w : Ex W W'
  le : Le W' H'
  fr : ∀ a o, H a = some o → a ∉ A → H' a = some o
  th : ∀ a, H a ≠ none → H' a ≠ none
  nw : ∀ a, W' a ≠ none → W a ≠ none ∨ H a = none
inductive IoR (K : PySem.W.Frag) (W H : Hp) : List Addr → List D → Prop
  | nil : IoR K W H [] []
  | cons {a : Addr} {d : D} {as : List Addr} {ds : List D} : W a = none → MutAt K W H a d → IoR K W H as ds → IoR K W H (a :: as) (d :: ds)
theorem IoR.get {K : PySem.W.Frag} {W H : Hp} : ∀ {as : List Addr} {ds : List D} {k : Nat} {a : Addr} {d : D}, IoR K W H as ds → as[k]? = some a → ds[k]? = some d → W a = none ∧ MutAt K W H a d
  | _, _, _, _, _, .nil, e, _ => by simp at e
  | _, _, 0, _, _, .cons h1 h2 _, e, e' => by simp at e e'; subst e e'; exact ⟨h1, h2⟩
  | _, _, k + 1, a, d, .cons _ _ r, e, e' => IoR.get (k := k) (a := a) (d := d) r (by simpa using e) (by simpa using e')
/-- a def's promise -/
def spF (K : PySem.W.Frag) (f : Fn) : Sp := fun vs H Q E => ∃ W ds, Le W H ∧ ArgR K W H f.io vs ds ∧ (ioA f.io vs).Nodup ∧ (match f.F ds with
  | .ok o ios => ∀ v W' H', FSt W H (ioA f.io vs) W' H' → IoR K W' H' (ioA f.io vs) ios → ORel K H W' H' v o → Q v H'
  | .exn x ios => ∀ cls d W' H', FSt W H (ioA f.io vs) W' H' → IoR K W' H' (ioA f.io vs) ios → XRel K W' H' x cls d → E cls d H'
  | .stuck => False)

/-! ### slots behind a call -/
theorem put1_get {Γ : List Slot} {i : Nat} {d : D} {b : Bool} {d0 : D} (g : Γ[i]? = some (.mt b d0)) : put1 Γ i d = Γ.set i (.mt b d) := by
  unfold put1
  rw [g]
theorem isMt_iff {Γ : List Slot} {i : Nat} (h : isMt Γ i = true) : ∃ b d, Γ[i]? = some (.mt b d) := by
  unfold isMt at h
  split at h
  · rename_i b d g
    exact ⟨b, d, g⟩
  · cases h
theorem isMt_of {Γ : List Slot} {i : Nat} {b : Bool} {d : D} (h : Γ[i]? = some (.mt b d)) : isMt Γ i = true := by
  unfold isMt
  rw [h]
theorem putA_get : ∀ {is : List Nat} {ios : List D} {Γ : List Slot}, is.Nodup → ios.length = is.length → (∀ i ∈ is, isMt Γ i = true) → ∀ {j : Nat} {s : Slot}, (putA Γ is ios)[j]? = some s →
    (j ∉ is ∧ Γ[j]? = some s) ∨ ∃ (k : Nat) (b : Bool) (d d' : D), is[k]? = some j ∧ ios[k]? = some d' ∧ Γ[j]? = some (.mt b d) ∧ s = .mt b d'
  | [], ios, Γ, _, _, _, j, s, h => by
    have h' : Γ[j]? = some s := by
      cases ios <;> exact h
    exact .inl ⟨by simp, h'⟩
  | i :: is, [], Γ, _, hl, _, j, s, h => by simp at hl
  | i :: is, d :: ios, Γ, hn, hl, hm, j, s, h => by
    obtain ⟨b, d0, g⟩ := isMt_iff (hm i List.mem_cons_self)
    have lt : i < Γ.length := (List.getElem?_eq_some_iff.mp g).1
    obtain ⟨hi, hn'⟩ := List.nodup_cons.mp hn
    have h' : (putA (Γ.set i (.mt b d)) is ios)[j]? = some s := by
      have : putA Γ (i :: is) (d :: ios) = putA (put1 Γ i d) is ios := rfl
      rw [this, put1_get g] at h
      exact h
    have hm' : ∀ k ∈ is, isMt (Γ.set i (.mt b d)) k = true := fun k hk => by
      have ne : i ≠ k := fun z => hi (z ▸ hk)
      obtain ⟨b', d', g'⟩ := isMt_iff (hm k (List.mem_cons_of_mem _ hk))
      exact isMt_of (b := b') (d := d') (by rw [List.getElem?_set_ne ne]; exact g')
    rcases putA_get hn' (by simpa using hl) hm' h' with ⟨n, z⟩ | ⟨k, b', d1, d2, z1, z2, z3, z4⟩
    · by_cases q : i = j
      · subst q
        rw [List.getElem?_set_self lt] at z
        cases z
        exact .inr ⟨0, b, d0, d, by simp, by simp, g, rfl⟩
      · rw [List.getElem?_set_ne q] at z
        exact .inl ⟨by simp only [List.mem_cons, not_or]; exact ⟨fun y => q y.symm, n⟩, z⟩
    · have ne : i ≠ j := fun z => hi (z ▸ List.mem_of_getElem? z1)
      rw [List.getElem?_set_ne ne] at z3
      exact .inr ⟨k + 1, b', d1, d2, by simpa using z1, by simpa using z2, z3, z4⟩
theorem put1_len {Γ : List Slot} {i : Nat} {d : D} : (put1 Γ i d).length = Γ.length := by
  unfold put1
  split <;> simp
theorem putA_len : ∀ {is : List Nat} {ios : List D} {Γ : List Slot}, (putA Γ is ios).length = Γ.length
  | [], ios, Γ => by cases ios <;> rfl
  | i :: is, [], Γ => rfl
  | i :: is, d :: ios, Γ => by
    show (putA (put1 Γ i d) is ios).length = _
    rw [putA_len, put1_len]
theorem freeze1_len {Γ : List Slot} {i : Nat} : (freeze1 Γ i).length = Γ.length := by
  unfold freeze1
  split <;> simp
theorem freezeA_len : ∀ {is : List Nat} {Γ : List Slot}, (freezeA Γ is).length = Γ.length
  | [], Γ => rfl
  | i :: is, Γ => by
    show (freezeA (freeze1 Γ i) is).length = _
    rw [freezeA_len, freeze1_len]
theorem freezeA_get : ∀ {L : List Nat} {Γ : List Slot} {j : Nat} {s : Slot}, (freezeA Γ L)[j]? = some s → (Γ[j]? = some s ∧ (j ∈ L → ∀ b d, s ≠ .mt b d)) ∨ ∃ b d, j ∈ L ∧ Γ[j]? = some (.mt b d) ∧ s = .dat d
  | [], Γ, j, s, h => .inl ⟨h, fun z => by simp at z⟩
  | i :: L, Γ, j, s, h => by
    have h' : (freezeA (freeze1 Γ i) L)[j]? = some s := h
    rcases freezeA_get h' with ⟨z, n⟩ | ⟨b, d, m, z, e⟩
    · unfold freeze1 at z
      split at z
      · rename_i b d g
        rcases get_set z with ⟨e1, e2, _⟩ | ⟨n1, e1⟩
        · subst e1 e2
          exact .inr ⟨b, d, List.mem_cons_self, g, rfl⟩
        · exact .inl ⟨e1, fun hm => by
            rcases List.mem_cons.mp hm with y | y
            · exact absurd y n1
            · exact n y⟩
      · rename_i g
        refine .inl ⟨z, fun hm b d e => ?_⟩
        subst e
        rcases List.mem_cons.mp hm with y | y
        · subst y
          exact g b d z
        · exact n y b d rfl
    · unfold freeze1 at z
      split at z
      · rcases get_set z with ⟨_, e2, _⟩ | ⟨n1, e1⟩
        · cases e2
        · exact .inr ⟨b, d, List.mem_cons_of_mem _ m, e1, e⟩
      · exact .inr ⟨b, d, List.mem_cons_of_mem _ m, z, e⟩

section
variable {K : PySem.W.Frag} {c c1 : Cf}
/-- addresses of in-out slots -/
inductive IoC (σ : St) : List Nat → List Addr → Prop
  | nil : IoC σ [] []
  | cons {i : Nat} {a : Addr} {is : List Nat} {as : List Addr} : σ[i]? = some (some (.ref a)) → IoC σ is as → IoC σ (i :: is) (a :: as)
theorem IoC.get {σ : St} : ∀ {is : List Nat} {as : List Addr} {k i : Nat}, IoC σ is as → is[k]? = some i → ∃ a, as[k]? = some a ∧ σ[i]? = some (some (.ref a))
  | _, _, _, _, .nil, e => by simp at e
  | _, _, 0, _, .cons h _, e => by simp at e; subst e; exact ⟨_, rfl, h⟩
  | _, _, k + 1, i, .cons _ r, e => by
    obtain ⟨a, h1, h2⟩ := IoC.get (k := k) (i := i) r (by simpa using e)
    exact ⟨a, by simpa using h1, h2⟩
theorem IoC.mem {σ : St} : ∀ {is : List Nat} {as : List Addr} {a : Addr}, IoC σ is as → a ∈ as → ∃ i ∈ is, σ[i]? = some (some (.ref a))
  | _, _, _, .nil, e => by simp at e
  | _, _, a, .cons (i := i) h r, e => by
    rcases List.mem_cons.mp e with z | z
    · subst z; exact ⟨i, List.mem_cons_self, h⟩
    · obtain ⟨j, h1, h2⟩ := r.mem z
      exact ⟨j, List.mem_cons_of_mem _ h1, h2⟩
theorem IoC.nodup (R : Rel K c1) : ∀ {is : List Nat} {as : List Addr}, IoC c1.σ is as → is.Nodup → (∀ i ∈ is, isMt c1.Γ i = true) → as.Nodup
  | _, _, .nil, _, _ => List.nodup_nil
  | _, _, .cons (i := i) (a := a) h r, hn, hm => by
    obtain ⟨hi, hn'⟩ := List.nodup_cons.mp hn
    refine List.nodup_cons.mpr ⟨fun z => ?_, IoC.nodup R r hn' fun j hj => hm j (List.mem_cons_of_mem _ hj)⟩
    obtain ⟨j, hj, e⟩ := r.mem z
    obtain ⟨b, d, g⟩ := isMt_iff (hm i List.mem_cons_self)
    obtain ⟨b', d', g'⟩ := isMt_iff (hm j (List.mem_cons_of_mem _ hj))
    exact hi (R.dist i j a ⟨b, d, .inl g⟩ ⟨b', d', .inl g'⟩ h e ▸ hj)
theorem ioC_of {c0 : Cf} (R : Rel K c1) : ∀ {bs : List Bool} {vs : List V} {ls : List Vl} {is : List Nat}, VRelA K c0 c1 vs ls → ioIx bs ls = some is → (∀ i ∈ is, isMt c1.Γ i = true) → IoC c1.σ is (ioA bs vs)
  | [], _, _, is, .nil, e, _ => by
    simp only [ioIx] at e
    cases e
    exact .nil
  | [], _, _, is, .cons _ _ _, e, _ => by simp [ioIx] at e
  | true :: bs, _, _, is, .nil, e, _ => by simp [ioIx] at e
  | false :: bs, _, _, is, .nil, e, _ => by simp [ioIx] at e
  | false :: bs, _, _, is, .cons (v := v) (ls := ls) h r _, e, hm => by
    have e' : ioIx bs ls = some is := by
      unfold ioIx at e
      exact e
    have z := ioC_of R r e' hm
    cases v <;> exact z
  | true :: bs, _, _, is, .cons (l := l) (ls := ls) h r _, e, hm => by
    cases h with
    | dat _ => simp [ioIx] at e
    | new _ _ _ _ => simp [ioIx] at e
    | @ref v i hq =>
      unfold ioIx at e
      cases q : ioIx bs ls with
      | none => rw [q] at e; cases e
      | some is' =>
        rw [q] at e
        cases e
        obtain ⟨b, d, g⟩ := isMt_iff (hm i List.mem_cons_self)
        obtain ⟨a, e1, _⟩ := R.mt i b d g
        rw [hq] at e1
        cases e1
        exact .cons hq (ioC_of R r q fun j hj => hm j (List.mem_cons_of_mem _ hj))
/-- what is lent or new among the arguments -/
inductive LP (Γ : List Slot) : List Bool → List V → List Vl → Addr → Prop
  | new {bs : List Bool} {vs : List V} {ls : List Vl} {a : Addr} {d : D} : LP Γ (false :: bs) (.ref a :: vs) (.new d :: ls) a
  | ref {bs : List Bool} {vs : List V} {ls : List Vl} {a : Addr} {i : Nat} : IsM Γ i → LP Γ (false :: bs) (.ref a :: vs) (.ref i :: ls) a
  | tl {bs : List Bool} {vs : List V} {ls : List Vl} {a : Addr} {b : Bool} {v : V} {l : Vl} : LP Γ bs vs ls a → LP Γ (b :: bs) (v :: vs) (l :: ls) a
/-- a lent thing is new since c0, or that of a slot that is lent -/
theorem LP.what {c0 : Cf} (R : Rel K c1) {bs : List Bool} {vs : List V} {ls : List Vl} {a : Addr} (V : VRelA K c0 c1 vs ls) (q : LP c1.Γ bs vs ls a) :
    c1.W a = none ∧ c1.H a ≠ none ∧ ((c0.H a = none ∧ ¬ c1.ad a) ∨ ∃ i, i ∈ lent c1.Γ bs ls ∧ IsM c1.Γ i ∧ c1.σ[i]? = some (some (.ref a))) := by
  induction q with
  | new =>
    cases V with
    | cons h r _ =>
      cases h with
      | new h0 hw hm ha => exact ⟨hw, ha.ne, .inl ⟨h0, hm⟩⟩
  | @ref bs vs ls a i hm =>
    cases V with
    | cons h r _ =>
      cases h with
      | ref hq =>
        obtain ⟨b, d, g⟩ := id hm
        obtain ⟨a', e1, e2, e3, _⟩ := R.am i b d g
        rw [hq] at e1
        cases e1
        refine ⟨e2, e3.ne, .inr ⟨i, ?_, hm, hq⟩⟩
        unfold lent
        rcases g with g | g <;> rw [g] <;> exact List.mem_cons_self
  | @tl bs vs ls a b v l q ih =>
    cases V with
    | cons h r _ =>
      obtain ⟨z1, z2, z3⟩ := ih r
      refine ⟨z1, z2, ?_⟩
      rcases z3 with z | ⟨i, y1, y2⟩
      · exact .inl z
      · refine .inr ⟨i, ?_, y2⟩
        cases b with
        | true => cases l <;> exact y1
        | false =>
          cases l with
          | dat d => exact y1
          | new d => exact y1
          | ref j =>
            unfold lent
            split
            · exact List.mem_cons_of_mem _ y1
            · exact List.mem_cons_of_mem _ y1
            · exact y1
theorem lent_isM : ∀ {Γ : List Slot} {bs : List Bool} {ls : List Vl} {i : Nat}, i ∈ lent Γ bs ls → IsM Γ i
  | Γ, [], ls, i, h => by simp [lent] at h
  | Γ, true :: bs, [], i, h => by simp [lent] at h
  | Γ, false :: bs, [], i, h => by simp [lent] at h
  | Γ, true :: bs, l :: ls, i, h => by
    have h' : i ∈ lent Γ bs ls := by cases l <;> exact h
    exact lent_isM h'
  | Γ, false :: bs, .dat d :: ls, i, h => lent_isM (bs := bs) (ls := ls) h
  | Γ, false :: bs, .new d :: ls, i, h => lent_isM (bs := bs) (ls := ls) h
  | Γ, false :: bs, .ref j :: ls, i, h => by
    unfold lent at h
    split at h
    · rename_i b d g
      rcases List.mem_cons.mp h with z | z
      · subst z; exact ⟨b, d, .inl g⟩
      · exact lent_isM z
    · rename_i b d g
      rcases List.mem_cons.mp h with z | z
      · subst z; exact ⟨b, d, .inr g⟩
      · exact lent_isM z
    · exact lent_isM h
/-- a lent slot's thing is among what is lent -/
theorem LP.of_lent {c0 : Cf} (R : Rel K c1) : ∀ {bs : List Bool} {vs : List V} {ls : List Vl} {i : Nat} {a : Addr}, VRelA K c0 c1 vs ls → bs.length = vs.length → i ∈ lent c1.Γ bs ls → c1.σ[i]? = some (some (.ref a)) → LP c1.Γ bs vs ls a
  | [], _, _, i, a, _, _, h, _ => by simp [lent] at h
  | true :: bs, _, _, i, a, .nil, hl, h, _ => by simp at hl
  | false :: bs, _, _, i, a, .nil, hl, h, _ => by simp at hl
  | true :: bs, _, _, i, a, .cons (l := l) (ls := ls) _ r _, hl, h, e => by
    have h' : i ∈ lent c1.Γ bs ls := by cases l <;> exact h
    exact .tl (LP.of_lent R r (by simpa using hl) h' e)
  | false :: bs, _, _, i, a, .cons (l := l) (ls := ls) q r _, hl, h, e => by
    have hl' := Nat.succ.inj hl
    cases q with
    | dat _ => exact .tl (LP.of_lent R r hl' h e)
    | new _ _ _ _ => exact .tl (LP.of_lent R r hl' h e)
    | @ref v j hq =>
      have hi := lent_isM h
      unfold lent at h
      split at h
      · rename_i b d g
        rcases List.mem_cons.mp h with z | z
        · subst z
          rw [hq] at e
          cases e
          exact .ref hi
        · exact .tl (LP.of_lent R r hl' z e)
      · rename_i b d g
        rcases List.mem_cons.mp h with z | z
        · subst z
          rw [hq] at e
          cases e
          exact .ref hi
        · exact .tl (LP.of_lent R r hl' z e)
      · exact .tl (LP.of_lent R r hl' h e)
end
end MP

end
-- MP5
section
/-! MP5: the reading of a def's call. -/
namespace MP
open PySem L2
section
variable {K : PySem.W.Frag} {Wx : WX} {c c1 : Cf}
theorem Rel.called (R1 : Rel K c1) (S1 : Stp c c1) {is : List Nat} {ios : List D} {fz : List Nat} {A : List Addr} {W' H' : Hp} (hn : is.Nodup) (hl : ios.length = is.length) (hm : ∀ i ∈ is, isMt c1.Γ i = true) (C : IoC c1.σ is A)
    (w : Ex c1.W W') (le : Le W' H') (fr : ∀ a o, c1.H a = some o → a ∉ A → H' a = some o) (th : ∀ a, c1.H a ≠ none → H' a ≠ none) (io : IoR K W' H' A ios)
    (nf : ∀ a, c1.ad a → a ∉ A → (∀ i ∈ fz, c1.σ[i]? ≠ some (some (.ref a))) → W' a = none)
    (hfz : ∀ i ∈ fz, i ∉ is ∧ ∃ b d a, c1.Γ[i]? = some (.mt b d) ∧ c1.σ[i]? = some (some (.ref a)) ∧ Dr K W' (.ref a) d)
    (nw : ∀ a, W' a ≠ none → c.W a ≠ none ∨ c.H a = none ∨ c.mu a) :
    Rel K ⟨c1.E, W', freezeA (putA c1.Γ is ios) fz, c1.σ, H'⟩ ∧ Stp c ⟨c1.E, W', freezeA (putA c1.Γ is ios) fz, c1.σ, H'⟩ := by
  have muA : ∀ a ∈ A, c1.mu a := fun a ha => by
    obtain ⟨i, hi, e⟩ := C.mem ha
    obtain ⟨b, d, g⟩ := isMt_iff (hm i hi)
    exact ⟨i, b, d, g, e⟩
  -- what a slot holds behind the call
  have sl : ∀ {j : Nat} {s : Slot}, (freezeA (putA c1.Γ is ios) fz)[j]? = some s →
      (j ∉ is ∧ c1.Γ[j]? = some s ∧ (j ∈ fz → ∀ b d, s ≠ .mt b d)) ∨ (∃ (k : Nat) (b : Bool) (d d' : D), is[k]? = some j ∧ ios[k]? = some d' ∧ c1.Γ[j]? = some (.mt b d) ∧ s = .mt b d') ∨ (∃ b d, j ∈ fz ∧ c1.Γ[j]? = some (.mt b d) ∧ s = .dat d) := fun {j s} h => by
    rcases freezeA_get h with ⟨h1, n1⟩ | ⟨b, d, m, h1, e⟩
    · rcases putA_get hn hl hm h1 with ⟨n2, h2⟩ | ⟨k, b, d, d', z1, z2, z3, z4⟩
      · exact .inl ⟨n2, h2, n1⟩
      · exact .inr (.inl ⟨k, b, d, d', z1, z2, z3, z4⟩)
    · rcases putA_get hn hl hm h1 with ⟨n2, h2⟩ | ⟨k, b', d1, d', z1, z2, z3, z4⟩
      · exact .inr (.inr ⟨b, d, m, h2, e⟩)
      · exact absurd (List.mem_of_getElem? z1) (hfz j m).1
  have isM' : ∀ {j : Nat}, IsM (freezeA (putA c1.Γ is ios) fz) j → IsM c1.Γ j := fun {j} h => by
    obtain ⟨b, d, h⟩ := h
    rcases h with h | h
    · rcases sl h with ⟨_, z, _⟩ | ⟨k, b', d1, d2, _, _, z, _⟩ | ⟨b', d', _, z, _⟩
      · exact ⟨b, d, .inl z⟩
      · exact ⟨b', d1, .inl z⟩
      · exact ⟨b', d', .inl z⟩
    · rcases sl h with ⟨_, z, _⟩ | ⟨k, b', d1, d2, _, _, z, _⟩ | ⟨b', d', _, z, _⟩
      · exact ⟨b, d, .inr z⟩
      · exact ⟨b', d1, .inl z⟩
      · exact ⟨b', d', .inl z⟩
  refine ⟨⟨?_, le, fun a h => th a (R1.ent a h), fun j d g => ?_, fun j b d g => ?_, fun i j a h1 h2 => R1.dist i j a (isM' h1) (isM' h2)⟩, ⟨S1.ent, S1.w.trans w, fun a o h n => ?_, fun a h => th a (S1.th a h), nw, fun a h => ?_, fun a h => ?_, fun j b d g => ?_, fun j d g => ?_⟩⟩
  · show (freezeA (putA c1.Γ is ios) fz).length = c1.σ.length
    rw [freezeA_len, putA_len]; exact R1.len
  · rcases sl g with ⟨_, z, _⟩ | ⟨k, b', d1, d2, _, _, _, z⟩ | ⟨b', d', m, z, e⟩
    · obtain ⟨v, e1, e2⟩ := R1.dat j d z
      exact ⟨v, e1, e2.mono w⟩
    · cases z
    · cases e
      obtain ⟨_, b2, d2, a, e1, e2, e3⟩ := hfz j m
      rw [z] at e1
      cases e1
      exact ⟨_, e2, e3⟩
  · have old : (c1.Γ[j]? = some (.mt b d) ∨ c1.Γ[j]? = some (.lck b d)) → j ∉ is → (j ∈ fz → ∀ b' d', c1.Γ[j]? ≠ some (.mt b' d')) → ∃ a, c1.σ[j]? = some (some (.ref a)) ∧ W' a = none ∧ MutAt K W' H' a d ∧ (b = true → c1.E a = none) := fun g nis nfz => by
      obtain ⟨a, e1, e2, e3, e4⟩ := R1.am j b d g
      have mj : IsM c1.Γ j := ⟨b, d, g⟩
      have nA : a ∉ A := fun ha => by
        obtain ⟨i, hi, e⟩ := C.mem ha
        obtain ⟨b', d', g'⟩ := isMt_iff (hm i hi)
        exact nis (R1.dist j i a mj ⟨b', d', .inl g'⟩ e1 e ▸ hi)
      refine ⟨a, e1, nf a ⟨j, mj, e1⟩ nA fun i hi e => ?_, e3.mono w fun o z => fr a o z nA, e4⟩
      obtain ⟨_, b', d', a', g', _⟩ := hfz i hi
      have q := R1.dist j i a mj ⟨b', d', .inl g'⟩ e1 e
      subst q
      exact nfz hi b' d' g'
    rcases g with g | g
    · rcases sl g with ⟨n, z, y⟩ | ⟨k, b', d1, d2, z1, z2, z3, z4⟩ | ⟨b', d', m, z, e⟩
      · exact old (.inl z) n fun hj b' d' e => by
          rw [z] at e
          cases e
          exact y hj _ _ rfl
      · cases z4
        obtain ⟨a, q1, q2⟩ := C.get z1
        obtain ⟨a', e1, _, _, e4⟩ := R1.mt j b d1 z3
        rw [q2] at e1
        cases e1
        obtain ⟨y1, y2⟩ := io.get q1 z2
        exact ⟨a, q2, y1, y2, e4⟩
      · cases e
    · rcases sl g with ⟨n, z, y⟩ | ⟨k, b', d1, d2, z1, z2, z3, z4⟩ | ⟨b', d', m, z, e⟩
      · exact old (.inr z) n fun hj b' d' e => by rw [z] at e; cases e
      · cases z4
      · cases e
  · have h1 : c1.H a = some o := S1.fr a o h n
    refine fr a o h1 fun ha => ?_
    rcases S1.mu a (muA a ha) with z | z
    · exact n z
    · rw [h] at z; cases z
  · obtain ⟨j, b, d, g, e⟩ := h
    have m : ∃ b d, c1.Γ[j]? = some (.mt b d) := by
      rcases sl g with ⟨_, z, _⟩ | ⟨k, b', d1, d2, _, _, z, _⟩ | ⟨b', d', _, z, _⟩
      · exact ⟨_, _, z⟩
      · exact ⟨_, _, z⟩
      · exact ⟨_, _, z⟩
    obtain ⟨b', d', z⟩ := m
    exact S1.mu a ⟨j, b', d', z, e⟩
  · obtain ⟨j, g, e⟩ := h
    exact S1.ad a ⟨j, isM' g, e⟩
  · rcases sl g with ⟨_, z, _⟩ | ⟨k, b', d1, d2, _, _, _, z⟩ | ⟨b', d', _, _, z⟩
    · exact S1.lk j b d z
    · cases z
    · cases z
  · rcases sl g with ⟨_, z, _⟩ | ⟨k, b', d1, d2, _, _, z, e⟩ | ⟨b', d', _, _, z⟩
    · exact S1.io j d z
    · cases e
      exact S1.io j d1 z
    · cases z

theorem scal_dr {W W' : Hp} {v : V} {d : D} (h : Dr K W v d) (s : scal d = true) : Dr K W' v d := by
  cases h with
  | non => exact .non
  | bl b => exact .bl b
  | int i => exact .int i
  | str x => exact .str x
  | _ => simp [scal] at s
theorem scalA_dr {W W' : Hp} : ∀ {vs : List V} {ds : List D}, DrA K W vs ds → ds.all scal = true → DrA K W' vs ds
  | _, _, .nil, _ => .nil
  | _, _, .cons h r, s => by
    simp only [List.all_cons, Bool.and_eq_true] at s
    exact .cons (scal_dr h s.1) (scalA_dr r s.2)
theorem flat_mut {W W' H : Hp} {a : Addr} {d : D} (h : MutAt K W H a d) (s : flat d = true) : MutAt K W' H a d := by
  cases h with
  | lst e r => exact .lst e (scalA_dr r s)
  | dK e r => simp [flat, scal] at s
  | dT e r => simp [flat, scal] at s
  | obj e r => simp [flat, scal] at s
theorem flat_io {W W' H : Hp} (hw : ∀ a, W a = none → W' a = none) : ∀ {as : List Addr} {ds : List D}, IoR K W H as ds → ds.all flat = true → IoR K W' H as ds
  | _, _, .nil, _ => .nil
  | _, _, .cons h1 h2 r, s => by
    simp only [List.all_cons, Bool.and_eq_true] at s
    exact .cons (hw _ h1) (flat_mut h2 s.1) (flat_io hw r s.2)
theorem ioIx_len : ∀ {bs : List Bool} {ls : List Vl} {is : List Nat}, ioIx bs ls = some is → bs.length = ls.length
  | [], [], _, _ => rfl
  | [], _ :: _, _, e => by simp [ioIx] at e
  | true :: _, [], _, e => by simp [ioIx] at e
  | false :: _, [], _, e => by simp [ioIx] at e
  | false :: bs, l :: ls, is, e => by
    have e' : ioIx bs ls = some is := by unfold ioIx at e; exact e
    simp [ioIx_len e']
  | true :: bs, .dat _ :: ls, is, e => by simp [ioIx] at e
  | true :: bs, .new _ :: ls, is, e => by simp [ioIx] at e
  | true :: bs, .ref i :: ls, is, e => by
    unfold ioIx at e
    cases q : ioIx bs ls with
    | none => rw [q] at e; cases e
    | some is' => simp [ioIx_len q]
theorem VRelA.len {c0 : Cf} : ∀ {vs : List V} {ls : List Vl}, VRelA K c0 c vs ls → vs.length = ls.length
  | _, _, .nil => rfl
  | _, _, .cons _ r _ => by simp [r.len]
/-- the arguments over a world that holds what is lent -/
theorem argR_of {W0 : Hp} (R : Rel K c1) (x : Ex c1.W W0) : ∀ {bs : List Bool} {vs : List V} {ls : List Vl} {ds : List D} {is : List Nat}, VRelA K c c1 vs ls → resA c1.Γ ls = some ds → ioIx bs ls = some is → (∀ i ∈ is, isMt c1.Γ i = true) →
    (∀ a, LP c1.Γ bs vs ls a → W0 a = c1.H a) → (∀ i ∈ is, ∀ a, c1.σ[i]? = some (some (.ref a)) → W0 a = none) → ArgR K W0 c1.H bs vs ds
  | [], _, _, ds, is, .nil, e, _, _, _, _ => by
    simp only [resA] at e
    cases e
    exact .nil
  | [], _, _, _, is, .cons _ _ _, _, e, _, _, _ => by simp [ioIx] at e
  | true :: bs, _, _, _, is, .nil, _, e, _, _, _ => by simp [ioIx] at e
  | false :: bs, _, _, _, is, .nil, _, e, _, _, _ => by simp [ioIx] at e
  | b :: bs, _, _, ds, is, .cons (v := v) (vs := vs) (l := l) (ls := ls) h r _, e, ei, hm, hP, hI => by
    unfold resA at e
    cases e1 : res c1.Γ l with
    | none => rw [e1] at e; cases e
    | some d =>
      cases e2 : resA c1.Γ ls with
      | none => rw [e1, e2] at e; cases e
      | some ds' =>
        rw [e1, e2] at e
        cases e
        cases b with
        | false =>
          have ei' : ioIx bs ls = some is := by unfold ioIx at ei; exact ei
          refine .dat ?_ (argR_of R x r e2 ei' hm (fun a ha => hP a (.tl ha)) hI)
          have mk : ∀ {a : Addr} {d : D}, MutAt K c1.W c1.H a d → W0 a = c1.H a → Dr K W0 (.ref a) d := fun {a d} m z => by
            obtain ⟨o, ho, hD⟩ := m.there
            exact hD W0 (z.trans ho) x
          cases h with
          | dat q => cases e1; exact q.mono x
          | new _ _ _ q => cases e1; exact mk q (hP _ .new)
          | @ref v i hq =>
            simp only [res] at e1
            cases g : c1.Γ[i]? with
            | none => rw [g] at e1; cases e1
            | some s =>
              rw [g] at e1
              cases s with
              | no => cases e1
              | dat d' =>
                cases e1
                obtain ⟨v', z1, z2⟩ := R.dat _ _ g
                rw [hq] at z1
                cases z1
                exact z2.mono x
              | mt b' d' =>
                cases e1
                obtain ⟨a, z1, _, z2, _⟩ := R.mt _ _ _ g
                rw [hq] at z1
                cases z1
                exact mk z2 (hP a (.ref ⟨_, _, .inl g⟩))
              | lck b' d' =>
                cases e1
                obtain ⟨a, z1, _, z2, _⟩ := R.lk _ _ _ g
                rw [hq] at z1
                cases z1
                exact mk z2 (hP a (.ref ⟨_, _, .inr g⟩))
        | true =>
          cases h with
          | dat _ => simp [ioIx] at ei
          | new _ _ _ _ => simp [ioIx] at ei
          | @ref v i hq =>
            unfold ioIx at ei
            cases q : ioIx bs ls with
            | none => rw [q] at ei; cases ei
            | some is' =>
              rw [q] at ei
              cases ei
              obtain ⟨b', d', g⟩ := isMt_iff (hm i List.mem_cons_self)
              obtain ⟨a, z1, _, z2, _⟩ := R.mt _ _ _ g
              rw [hq] at z1
              cases z1
              simp only [res, g] at e1
              cases e1
              exact .io (hI i List.mem_cons_self a hq) (z2.mono x fun _ z => z) (argR_of R x r e2 q (fun j hj => hm j (List.mem_cons_of_mem _ hj)) (fun a ha => hP a (.tl ha)) fun j hj => hI j (List.mem_cons_of_mem _ hj))
open Classical in
theorem den_call {σ : St} {H : Hp} {Q : VK} {f : Fn} {as : Ta} (h : den K Wx (.call f as) σ H Q) : denA K Wx as σ H fun vs H2 => spF K f vs H2 Q (WE Wx σ) := by
  obtain ⟨E, W, Γ, R, h⟩ := h
  simp only [ev] at h
  refine ⟨E, W, Γ, R, h.bind0.imp fun ls c1 R1 S1 es h1 vs V1 => ?_⟩
  obtain ⟨E1, W1, Γ1, σ1, H1⟩ := c1
  cases es
  obtain rfl : E1 = E := S1.ent
  dsimp only at h1
  unfold evCall at h1
  cases er : resA Γ1 ls with
  | none => rw [er] at h1; exact h1.elim
  | some ds =>
    cases ei : ioIx f.io ls with
    | none => rw [er, ei] at h1; exact h1.elim
    | some is =>
      rw [er, ei] at h1
      dsimp only at h1
      split at h1
      rotate_left
      · exact h1.elim
      rename_i cond
      obtain ⟨hn, hmA, hlA⟩ := cond
      have hm : ∀ i ∈ is, isMt Γ1 i = true := fun i hi => List.all_eq_true.mp hmA i hi
      have hl : ∀ i ∈ lent Γ1 f.io ls, i ∉ is := fun i hi => by
        have := List.all_eq_true.mp hlA i hi
        simpa using this
      have C := ioC_of R1 V1 ei hm
      let W0 : Hp := fun a => if LP Γ1 f.io vs ls a then H1 a else W1 a
      have hP : ∀ a, LP Γ1 f.io vs ls a → W0 a = H1 a := fun a ha => if_pos ha
      have hN : ∀ a, ¬ LP Γ1 f.io vs ls a → W0 a = W1 a := fun a ha => if_neg ha
      have x0 : Ex W1 W0 := fun a o e => by
        by_cases q : LP Γ1 f.io vs ls a
        · have := (q.what R1 V1).1
          rw [show W1 a = none from this] at e; cases e
        · rw [hN a q]; exact e
      have l0 : Le W0 H1 := fun a o e => by
        by_cases q : LP Γ1 f.io vs ls a
        · rw [hP a q] at e; exact .inl e
        · rw [hN a q] at e; exact R1.le a o e
      have nLP : ∀ i, IsM Γ1 i → i ∉ lent Γ1 f.io ls → ∀ a, σ[i]? = some (some (V.ref a)) → ¬ LP Γ1 f.io vs ls a := fun i mi ni a e q => by
        rcases (q.what R1 V1).2.2 with ⟨_, z⟩ | ⟨j, hj, mj, ej⟩
        · exact z ⟨i, mi, e⟩
        · exact ni (R1.dist i j a mi mj e ej ▸ hj)
      have hI : ∀ i ∈ is, ∀ a, σ[i]? = some (some (V.ref a)) → W0 a = none := fun i hi a e => by
        obtain ⟨b, d, g⟩ := isMt_iff (hm i hi)
        have mi : IsM Γ1 i := ⟨b, d, .inl g⟩
        rw [hN a (nLP i mi (fun z => hl i z hi) a e)]
        exact (R1.ad_ne ⟨i, mi, e⟩).2
      have aR : ArgR K W0 H1 f.io vs ds := argR_of R1 x0 V1 er ei hm hP hI
      have bl : f.io.length = vs.length := (ioIx_len ei).trans V1.len.symm
      refine ⟨W0, ds, l0, aR, C.nodup R1 hn hm, ?_⟩
      have nw0 : ∀ a, W0 a ≠ none → W a ≠ none ∨ H a = none ∨ Cf.mu ⟨E1, W, Γ, σ, H⟩ a ∨ ∃ i ∈ lent Γ1 f.io ls, σ[i]? = some (some (V.ref a)) := fun a h => by
        by_cases q : LP Γ1 f.io vs ls a
        · rcases (q.what R1 V1).2.2 with ⟨z, _⟩ | ⟨j, hj, mj, ej⟩
          · exact .inr (.inl z)
          · exact .inr (.inr (.inr ⟨j, hj, ej⟩))
        · rw [hN a q] at h
          rcases S1.nw a h with z | z | z
          · exact .inl z
          · exact .inr (.inl z)
          · exact .inr (.inr (.inl z))
      have lentMu : ∀ a, (lent Γ1 f.io ls).all (isMt Γ1) = true → (∃ i ∈ lent Γ1 f.io ls, σ[i]? = some (some (V.ref a))) → Cf.mu ⟨E1, W, Γ, σ, H⟩ a ∨ H a = none := fun a hall ⟨i, hi, e⟩ => by
        obtain ⟨b, d, g⟩ := isMt_iff (List.all_eq_true.mp hall i hi)
        exact S1.mu a ⟨i, b, d, g, e⟩
      have nf0 : ∀ (W' : Hp) (hw : ∀ a, W' a ≠ none → W0 a ≠ none ∨ H1 a = none) (fz : List Nat), (∀ i ∈ lent Γ1 f.io ls, i ∈ fz) → ∀ a, Cf.ad ⟨E1, W1, Γ1, σ, H1⟩ a → a ∉ ioA f.io vs → (∀ i ∈ fz, σ[i]? ≠ some (some (V.ref a))) → W' a = none := fun W' hw fz hfz a had hA hz => by
        obtain ⟨i, mi, e⟩ := id had
        by_cases q : W' a = none
        · exact q
        · rcases hw a q with z | z
          · exact absurd ((hN a (nLP i mi (fun y => hz i (hfz i y) e) a e)).trans (R1.ad_ne had).2) z
          · exact absurd z (R1.ad_ne had).1
      cases hf : f.F ds with
      | stuck => rw [hf] at h1; exact h1.elim
      | exn x ios =>
        rw [hf] at h1
        dsimp only at h1
        split at h1
        rotate_left
        · exact h1.elim
        rename_i cd
        obtain ⟨hlen, hemp⟩ := cd
        have hemp' : lent Γ1 f.io ls = [] := by simpa using hemp
        intro cls d W' H' F I X
        have nw' : ∀ a, W' a ≠ none → W a ≠ none ∨ H a = none ∨ Cf.mu ⟨E1, W, Γ, σ, H⟩ a := fun a h => by
          rcases F.nw a h with z | z
          · rcases nw0 a z with y | y | y | ⟨i, hi, _⟩
            · exact .inl y
            · exact .inr (.inl y)
            · exact .inr (.inr y)
            · rw [hemp'] at hi; simp at hi
          · exact .inr (.inl (S1.back a z))
        obtain ⟨R2, S2⟩ := Rel.called (fz := []) R1 S1 hn hlen hm C (x0.trans F.w) F.le F.fr F.th I (nf0 W' F.nw [] fun i hi => by rw [hemp'] at hi; exact hi) (fun i hi => by simp at hi) nw'
        exact h1 cls d W' H' R2 S2 X
      | ok o ios =>
        rw [hf] at h1
        dsimp only at h1
        split at h1
        rotate_left
        · exact h1.elim
        rename_i hlen
        intro v W' H' F I O
        have out : ∀ {W2 : Hp} {Γ2 : List Slot}, Rel K ⟨E1, W2, Γ2, σ, H'⟩ → (∀ a, Cf.ad ⟨E1, W2, Γ2, σ, H'⟩ a → Cf.ad ⟨E1, W1, Γ1, σ, H1⟩ a) → ORel K H1 W2 H' v o → VRel K ⟨E1, W, Γ, σ, H⟩ ⟨E1, W2, Γ2, σ, H'⟩ v o.vl := fun {W2 Γ2} R2 hA O => by
          cases O with
          | dat q => exact .dat q
          | new y1 y2 y3 => exact .new (S1.back _ y1) y2 (fun z => (R1.ad_ne (hA _ z)).1 y1) y3
        have adP : ∀ fz, ∀ a, Cf.ad ⟨E1, W', freezeA (putA Γ1 is ios) fz, σ, H'⟩ a → Cf.ad ⟨E1, W1, Γ1, σ, H1⟩ a := fun fz a ⟨j, ⟨b, d, g⟩, e⟩ => by
          have back : ∀ {s : Slot}, (freezeA (putA Γ1 is ios) fz)[j]? = some s → (∃ b d, s = .mt b d ∨ s = .lck b d) → IsM Γ1 j := fun {s} h hs => by
            rcases freezeA_get h with ⟨h1, _⟩ | ⟨b, d, _, _, e⟩
            · rcases putA_get hn hlen hm h1 with ⟨_, h2⟩ | ⟨k, b, d, d', _, _, z3, _⟩
              · obtain ⟨b, d, hs⟩ := hs
                rcases hs with hs | hs
                · exact ⟨b, d, .inl (hs ▸ h2)⟩
                · exact ⟨b, d, .inr (hs ▸ h2)⟩
              · exact ⟨b, d, .inl z3⟩
            · subst e
              obtain ⟨b, d, hs⟩ := hs
              rcases hs with hs | hs <;> cases hs
          rcases g with g | g
          · exact ⟨j, back g ⟨b, d, .inl rfl⟩, e⟩
          · exact ⟨j, back g ⟨b, d, .inr rfl⟩, e⟩
        split at h1
        · rename_i cd
          by_cases hemp : lent Γ1 f.io ls = []
          · have nw' : ∀ a, W' a ≠ none → W a ≠ none ∨ H a = none ∨ Cf.mu ⟨E1, W, Γ, σ, H⟩ a := fun a h => by
              rcases F.nw a h with z | z
              · rcases nw0 a z with y | y | y | ⟨i, hi, _⟩
                · exact .inl y
                · exact .inr (.inl y)
                · exact .inr (.inr y)
                · rw [hemp] at hi; simp at hi
              · exact .inr (.inl (S1.back a z))
            obtain ⟨R2, S2⟩ := Rel.called (fz := []) R1 S1 hn hlen hm C (x0.trans F.w) F.le F.fr F.th I (nf0 W' F.nw [] fun i hi => by rw [hemp] at hi; exact hi) (fun i hi => by simp at hi) nw'
            exact h1 W' H' R2 S2 v (out R2 (adP []) O)
          · have cd' : o.scal = true ∧ ios.all flat = true := by
              rcases cd with z | z
              · exact absurd (by simpa using z) hemp
              · exact z
            have nA : ∀ a, W1 a ≠ none → a ∉ ioA f.io vs := fun a h ha => by
              obtain ⟨i, hi, e⟩ := C.mem ha
              obtain ⟨b, d, g⟩ := isMt_iff (hm i hi)
              exact h (R1.ad_ne ⟨i, ⟨b, d, .inl g⟩, e⟩).2
            have le' : Le W1 H' := fun a o e => by
              have ne : W1 a ≠ none := by rw [e]; exact nofun
              rcases R1.le a o e with z | ⟨ob, z⟩
              · exact .inl (F.fr a _ z (nA a ne))
              · exact .inr ⟨ob, F.fr a _ z (nA a ne)⟩
            have hw1 : ∀ a, W' a = none → W1 a = none := fun a h => by
              cases q : W1 a with
              | none => rfl
              | some o =>
                rw [(x0.trans F.w) a o q] at h; cases h
            obtain ⟨R2, S2⟩ := Rel.called (fz := []) R1 S1 hn hlen hm C (Ex.refl _) le' F.fr F.th (flat_io hw1 I cd'.2) (fun a ha _ _ => (R1.ad_ne ha).2) (fun i hi => by simp at hi) S1.nw
            refine h1 W1 H' R2 S2 v ?_
            cases O with
            | dat q => exact .dat (scal_dr q cd'.1)
            | new _ _ _ => simp [Ou.scal] at cd'
        · split at h1
          rotate_left
          · exact h1.elim
          rename_i hall
          have nw' : ∀ a, W' a ≠ none → W a ≠ none ∨ H a = none ∨ Cf.mu ⟨E1, W, Γ, σ, H⟩ a := fun a h => by
            rcases F.nw a h with z | z
            · rcases nw0 a z with y | y | y | y
              · exact .inl y
              · exact .inr (.inl y)
              · exact .inr (.inr y)
              · rcases lentMu a hall y with w | w
                · exact .inr (.inr w)
                · exact .inr (.inl w)
            · exact .inr (.inl (S1.back a z))
          obtain ⟨R2, S2⟩ := Rel.called (fz := lent Γ1 f.io ls) R1 S1 hn hlen hm C (x0.trans F.w) F.le F.fr F.th I (nf0 W' F.nw _ fun i hi => hi) (fun i hi => by
            obtain ⟨b, d, g⟩ := isMt_iff (List.all_eq_true.mp hall i hi)
            obtain ⟨a, e1, _, e3, _⟩ := R1.mt i b d g
            refine ⟨hl i hi, b, d, a, g, e1, ?_⟩
            obtain ⟨ob, ho, hD⟩ := e3.there
            exact (hD W0 ((hP a (LP.of_lent R1 V1 bl hi e1)).trans ho) x0).mono F.w) nw'
          exact h1 W' H' R2 S2 v (out R2 (adP _) O)
end
end MP

end
-- MP6
section
/-! MP6: targets, iterators, comprehensions. -/
namespace MP
open PySem L2
theorem lockA_get : ∀ {L : List Nat} {Γ : List Slot} {j : Nat} {s : Slot}, (lockA L Γ)[j]? = some s → (Γ[j]? = some s ∧ (j ∈ L → ∀ b d, s ≠ .mt b d)) ∨ ∃ b d, j ∈ L ∧ Γ[j]? = some (.mt b d) ∧ s = .lck b d
  | [], Γ, j, s, h => .inl ⟨h, fun z => by simp at z⟩
  | i :: L, Γ, j, s, h => by
    have h' : (lockA L (lock1 i Γ))[j]? = some s := h
    rcases lockA_get h' with ⟨z, n⟩ | ⟨b, d, m, z, e⟩
    · unfold lock1 at z
      split at z
      · rename_i b d g
        rcases get_set z with ⟨e1, e2, _⟩ | ⟨n1, e1⟩
        · subst e1 e2
          exact .inr ⟨b, d, List.mem_cons_self, g, rfl⟩
        · exact .inl ⟨e1, fun hm => by
            rcases List.mem_cons.mp hm with y | y
            · exact absurd y n1
            · exact n y⟩
      · rename_i g
        refine .inl ⟨z, fun hm b d e => ?_⟩
        subst e
        rcases List.mem_cons.mp hm with y | y
        · subst y
          exact g b d z
        · exact n y b d rfl
    · unfold lock1 at z
      split at z
      · rcases get_set z with ⟨_, e2, _⟩ | ⟨n1, e1⟩
        · cases e2
        · exact .inr ⟨b, d, List.mem_cons_of_mem _ m, e1, e⟩
      · exact .inr ⟨b, d, List.mem_cons_of_mem _ m, z, e⟩
theorem unlockA_get : ∀ {L : List Nat} {Γ : List Slot} {j : Nat} {s : Slot}, (unlockA L Γ)[j]? = some s → (Γ[j]? = some s ∧ (j ∈ L → ∀ b d, s ≠ .lck b d)) ∨ ∃ b d, j ∈ L ∧ Γ[j]? = some (.lck b d) ∧ s = .mt b d
  | [], Γ, j, s, h => .inl ⟨h, fun z => by simp at z⟩
  | i :: L, Γ, j, s, h => by
    have h' : (unlockA L (unlock1 i Γ))[j]? = some s := h
    rcases unlockA_get h' with ⟨z, n⟩ | ⟨b, d, m, z, e⟩
    · unfold unlock1 at z
      split at z
      · rename_i b d g
        rcases get_set z with ⟨e1, e2, _⟩ | ⟨n1, e1⟩
        · subst e1 e2
          exact .inr ⟨b, d, List.mem_cons_self, g, rfl⟩
        · exact .inl ⟨e1, fun hm => by
            rcases List.mem_cons.mp hm with y | y
            · exact absurd y n1
            · exact n y⟩
      · rename_i g
        refine .inl ⟨z, fun hm b d e => ?_⟩
        subst e
        rcases List.mem_cons.mp hm with y | y
        · subst y
          exact g b d z
        · exact n y b d rfl
    · unfold unlock1 at z
      split at z
      · rcases get_set z with ⟨_, e2, _⟩ | ⟨n1, e1⟩
        · cases e2
        · exact .inr ⟨b, d, List.mem_cons_of_mem _ m, e1, e⟩
      · exact .inr ⟨b, d, List.mem_cons_of_mem _ m, z, e⟩
theorem lock1_len {Γ : List Slot} {i : Nat} : (lock1 i Γ).length = Γ.length := by
  unfold lock1
  split <;> simp
theorem lockA_len : ∀ {L : List Nat} {Γ : List Slot}, (lockA L Γ).length = Γ.length
  | [], Γ => rfl
  | i :: L, Γ => by
    show (lockA L (lock1 i Γ)).length = _
    rw [lockA_len, lock1_len]
theorem unlock1_len {Γ : List Slot} {i : Nat} : (unlock1 i Γ).length = Γ.length := by
  unfold unlock1
  split <;> simp
theorem unlockA_len : ∀ {L : List Nat} {Γ : List Slot}, (unlockA L Γ).length = Γ.length
  | [], Γ => rfl
  | i :: L, Γ => by
    show (unlockA L (unlock1 i Γ)).length = _
    rw [unlockA_len, unlock1_len]
theorem wipeG_len : ∀ {own : List Nat} {Γ : List Slot}, (wipeG own Γ).length = Γ.length
  | [], Γ => rfl
  | i :: L, Γ => by
    unfold wipeG
    rw [List.length_set, wipeG_len]
theorem keepG_len : ∀ {own : List Nat} {Γ0 Γ : List Slot}, (keepG own Γ0 Γ).length = Γ.length
  | [], Γ0, Γ => rfl
  | i :: L, Γ0, Γ => by
    unfold keepG
    rw [List.length_set, keepG_len]
theorem wipeG_get : ∀ {own : List Nat} {Γ : List Slot} {j : Nat} {s : Slot}, (wipeG own Γ)[j]? = some s → (j ∉ own ∧ Γ[j]? = some s) ∨ (j ∈ own ∧ s = .no)
  | [], Γ, j, s, h => .inl ⟨by simp, h⟩
  | v :: own, Γ, j, s, h => by
    unfold wipeG at h
    rcases get_set h with ⟨e1, e2, _⟩ | ⟨n, e⟩
    · subst e1 e2
      exact .inr ⟨List.mem_cons_self, rfl⟩
    · rcases wipeG_get e with ⟨z, y⟩ | ⟨z, y⟩
      · exact .inl ⟨by simp only [List.mem_cons, not_or]; exact ⟨n, z⟩, y⟩
      · exact .inr ⟨List.mem_cons_of_mem _ z, y⟩
theorem keepG_get : ∀ {own : List Nat} {Γ0 Γ : List Slot} {j : Nat} {s : Slot}, (keepG own Γ0 Γ)[j]? = some s → (j ∉ own ∧ Γ[j]? = some s) ∨ (j ∈ own ∧ s = Γ0[j]?.getD .no)
  | [], Γ0, Γ, j, s, h => .inl ⟨by simp, h⟩
  | v :: own, Γ0, Γ, j, s, h => by
    unfold keepG at h
    rcases get_set h with ⟨e1, e2, _⟩ | ⟨n, e⟩
    · subst e1 e2
      exact .inr ⟨List.mem_cons_self, rfl⟩
    · rcases keepG_get e with ⟨z, y⟩ | ⟨z, y⟩
      · exact .inl ⟨by simp only [List.mem_cons, not_or]; exact ⟨n, z⟩, y⟩
      · exact .inr ⟨List.mem_cons_of_mem _ z, y⟩
theorem locks_mt : ∀ {Γ : List Slot} {ls : List Vl} {i : Nat}, i ∈ locks Γ ls → ∃ b d, Γ[i]? = some (.mt b d)
  | Γ, [], i, h => by simp [locks] at h
  | Γ, .dat _ :: ls, i, h => locks_mt (ls := ls) h
  | Γ, .new _ :: ls, i, h => locks_mt (ls := ls) h
  | Γ, .ref j :: ls, i, h => by
    unfold locks at h
    split at h
    · rename_i b d g
      rcases List.mem_cons.mp h with z | z
      · subst z; exact ⟨b, d, g⟩
      · exact locks_mt z
    · exact locks_mt h
theorem wipe_ne {σ : St} {own : List Nat} {i : Nat} (h : i ∉ own) : (wipe σ own)[i]? = σ[i]? := wipe_out h

section
variable {K : PySem.W.Frag} {c : Cf}
theorem Rel.lockA {L : List Nat} (R : Rel K c) : Rel K ⟨c.E, c.W, MP.lockA L c.Γ, c.σ, c.H⟩ := by
  have im : ∀ {j : Nat}, IsM (MP.lockA L c.Γ) j → IsM c.Γ j := fun {j} h => by
    obtain ⟨b, d, h | h⟩ := h
    · rcases lockA_get h with ⟨z, _⟩ | ⟨b', d', _, z, _⟩
      · exact ⟨b, d, .inl z⟩
      · exact ⟨b', d', .inl z⟩
    · rcases lockA_get h with ⟨z, _⟩ | ⟨b', d', _, z, _⟩
      · exact ⟨b, d, .inr z⟩
      · exact ⟨b', d', .inl z⟩
  refine ⟨by rw [show (Cf.mk c.E c.W (MP.lockA L c.Γ) c.σ c.H).Γ = MP.lockA L c.Γ from rfl, lockA_len]; exact R.len, R.le, R.ent, fun j d g => ?_, fun j b d g => ?_, fun i j a h1 h2 => R.dist i j a (im h1) (im h2)⟩
  · rcases lockA_get g with ⟨z, _⟩ | ⟨b', d', _, _, z⟩
    · exact R.dat j d z
    · cases z
  · rcases g with g | g
    · rcases lockA_get g with ⟨z, _⟩ | ⟨b', d', _, z, e⟩
      · exact R.am j b d (.inl z)
      · cases e
    · rcases lockA_get g with ⟨z, _⟩ | ⟨b', d', _, z, e⟩
      · exact R.am j b d (.inr z)
      · cases e; exact R.am j b d (.inl z)
theorem Rel.wipe {own : List Nat} (R : Rel K c) : Rel K ⟨c.E, c.W, wipeG own c.Γ, L2.wipe c.σ own, c.H⟩ := by
  have im : ∀ {j : Nat}, IsM (wipeG own c.Γ) j → j ∉ own ∧ IsM c.Γ j := fun {j} h => by
    obtain ⟨b, d, h | h⟩ := h
    · rcases wipeG_get h with ⟨n, z⟩ | ⟨_, z⟩
      · exact ⟨n, b, d, .inl z⟩
      · cases z
    · rcases wipeG_get h with ⟨n, z⟩ | ⟨_, z⟩
      · exact ⟨n, b, d, .inr z⟩
      · cases z
  refine ⟨by show (wipeG own c.Γ).length = (L2.wipe c.σ own).length; rw [wipeG_len, wipe_length]; exact R.len, R.le, R.ent, fun j d g => ?_, fun j b d g => ?_, fun i j a h1 h2 e1 e2 => ?_⟩
  · rcases wipeG_get g with ⟨n, z⟩ | ⟨_, z⟩
    · obtain ⟨v, e1, e2⟩ := R.dat j d z
      exact ⟨v, (wipe_ne n).trans e1, e2⟩
    · cases z
  · obtain ⟨n, _⟩ := im ⟨b, d, g⟩
    have g' : c.Γ[j]? = some (.mt b d) ∨ c.Γ[j]? = some (.lck b d) := by
      rcases g with g | g
      · rcases wipeG_get g with ⟨_, z⟩ | ⟨_, z⟩
        · exact .inl z
        · cases z
      · rcases wipeG_get g with ⟨_, z⟩ | ⟨_, z⟩
        · exact .inr z
        · cases z
    obtain ⟨a, e1, e2⟩ := R.am j b d g'
    exact ⟨a, (wipe_ne n).trans e1, e2⟩
  · obtain ⟨n1, m1⟩ := im h1
    obtain ⟨n2, m2⟩ := im h2
    have e1' : (L2.wipe c.σ own)[i]? = some (some (V.ref a)) := e1
    have e2' : (L2.wipe c.σ own)[j]? = some (some (V.ref a)) := e2
    rw [wipe_ne n1] at e1'
    rw [wipe_ne n2] at e2'
    exact R.dist i j a m1 m2 e1' e2'
theorem Stp.wipe {own : List Nat} : Stp c ⟨c.E, c.W, wipeG own c.Γ, L2.wipe c.σ own, c.H⟩ := by
  refine ⟨rfl, Ex.refl _, fun _ _ h _ => h, fun _ h => h, fun _ h => .inl h, fun a h => ?_, fun a h => ?_, fun i b d g => ?_, fun i d g => ?_⟩
  · obtain ⟨j, b, d, g, e⟩ := h
    rcases wipeG_get g with ⟨n, z⟩ | ⟨_, z⟩
    · exact .inl ⟨j, b, d, z, (wipe_ne n).symm.trans e⟩
    · cases z
  · obtain ⟨j, ⟨b, d, g⟩, e⟩ := h
    rcases g with g | g
    · rcases wipeG_get g with ⟨n, z⟩ | ⟨_, z⟩
      · exact .inl ⟨j, ⟨b, d, .inl z⟩, (wipe_ne n).symm.trans e⟩
      · cases z
    · rcases wipeG_get g with ⟨n, z⟩ | ⟨_, z⟩
      · exact .inl ⟨j, ⟨b, d, .inr z⟩, (wipe_ne n).symm.trans e⟩
      · cases z
  · rcases wipeG_get g with ⟨n, z⟩ | ⟨_, z⟩
    · exact ⟨⟨d, z⟩, wipe_ne n⟩
    · cases z
  · rcases wipeG_get g with ⟨n, z⟩ | ⟨_, z⟩
    · exact ⟨⟨d, z⟩, wipe_ne n⟩
    · cases z
end

/-! ### targets -/
def slots : Tg → List Nat
  | .nm i => [i]
  | .nil => []
  | .cons a r => slots a ++ slots r
def same (L : List Nat) (σ σ' : St) : Prop := σ'.length = σ.length ∧ ∀ j, j ∉ L → σ'[j]? = σ[j]?
def denG (K : PySem.W.Frag) (tg : Tg) : TG := fun v σ H Q => ∃ E W Γ d Γ', Rel K ⟨E, W, Γ, σ, H⟩ ∧ Dr K W v d ∧ bnd tg d Γ = some Γ' ∧ ∀ σ', Rel K ⟨E, W, Γ', σ', H⟩ → Stp ⟨E, W, Γ, σ, H⟩ ⟨E, W, Γ', σ', H⟩ → same (slots tg) σ σ' → Q σ' H
def denGs (K : PySem.W.Frag) (tg : Tg) : TGs := fun vs σ H Q => ∃ E W Γ ds Γ', Rel K ⟨E, W, Γ, σ, H⟩ ∧ DrA K W vs ds ∧ bnd tg (.tup ds) Γ = some Γ' ∧ ∀ σ', Rel K ⟨E, W, Γ', σ', H⟩ → Stp ⟨E, W, Γ, σ, H⟩ ⟨E, W, Γ', σ', H⟩ → same (slots tg) σ σ' → Q σ' H
section
variable {K : PySem.W.Frag} {σ : St} {H : Hp} {Q : St → Hp → Prop}
theorem denG_nm {i : Nat} {v : V} (h : denG K (.nm i) v σ H Q) : gName i v σ H Q := by
  obtain ⟨E, W, Γ, d, Γ', R, hd, hb, k⟩ := h
  unfold bnd at hb
  split at hb
  · rename_i hi
    cases hb
    obtain ⟨R', S'⟩ := R.setDat hd hi
    exact k _ R' S' ⟨by simp, fun j hj => List.getElem?_set_ne fun z => hj (by simp [slots, z])⟩
  · cases hb
theorem denGs_nil {vs : List V} (h : denGs K .nil vs σ H Q) : gNil vs σ H Q := by
  obtain ⟨E, W, Γ, ds, Γ', R, hd, hb, k⟩ := h
  cases hd with
  | nil =>
    simp only [bnd] at hb
    cases hb
    exact ⟨rfl, k σ R (Stp.refl _) ⟨rfl, fun _ _ => rfl⟩⟩
  | cons _ _ => simp [bnd] at hb
theorem same.trans {L M : List Nat} {σ σ1 σ2 : St} (a : same L σ σ1) (b : same M σ1 σ2) : same (L ++ M) σ σ2 :=
  ⟨b.1.trans a.1, fun j hj => by
    simp only [List.mem_append, not_or] at hj
    exact (b.2 j hj.2).trans (a.2 j hj.1)⟩
theorem denGs_cons {a r : Tg} {vs : List V} (h : denGs K (.cons a r) vs σ H Q) : gCons (denG K a) (denGs K r) vs σ H Q := by
  obtain ⟨E, W, Γ, ds, Γ', R, hd, hb, k⟩ := h
  cases hd with
  | nil => simp [bnd] at hb
  | @cons v vs d ds h1 h2 =>
    unfold bnd at hb
    cases e : bnd a d Γ with
    | none => rw [e] at hb; cases hb
    | some Γ1 =>
      rw [e] at hb
      refine ⟨v, vs, rfl, E, W, Γ, d, Γ1, R, h1, e, fun σ1 R1 S1 s1 => ?_⟩
      exact ⟨E, W, Γ1, ds, Γ', R1, h2, hb, fun σ2 R2 S2 s2 => k σ2 R2 (S1.trans S2) (s1.trans s2)⟩
def isTup : Tg → Nat → Prop
  | .nm _, _ => False
  | .nil, n => n = 0
  | .cons _ r, n => ∃ m, n = m + 1 ∧ isTup r m
theorem bnd_tup : ∀ {tg : Tg} {n : Nat} {d : D} {Γ Γ' : List Slot}, isTup tg n → bnd tg d Γ = some Γ' → ∃ ds, d = .tup ds ∧ ds.length = n
  | .nm _, _, _, _, _, h, _ => h.elim
  | .nil, n, d, Γ, Γ', h, e => by
    cases d with
    | tup ds =>
      cases ds with
      | nil => exact ⟨[], rfl, h.symm⟩
      | cons _ _ => simp [bnd] at e
    | _ => simp [bnd] at e
  | .cons a r, n, d, Γ, Γ', h, e => by
    obtain ⟨m, rfl, h⟩ := h
    cases d with
    | tup ds =>
      cases ds with
      | nil => simp [bnd] at e
      | cons d ds =>
        unfold bnd at e
        cases e1 : bnd a d Γ with
        | none => rw [e1] at e; cases e
        | some Γ1 =>
          rw [e1] at e
          obtain ⟨ds', z1, z2⟩ := bnd_tup h e
          cases z1
          exact ⟨_, rfl, by simp [z2]⟩
    | _ => simp [bnd] at e
theorem denG_tup {tg : Tg} {n : Nat} (ht : isTup tg n) {v : V} (h : denG K tg v σ H Q) : gTup K n (denGs K tg) v σ H Q := by
  obtain ⟨E, W, Γ, d, Γ', R, hd, hb, k⟩ := h
  obtain ⟨ds, rfl, hl⟩ := bnd_tup ht hb
  cases hd with
  | @tup a vs _ h1 h2 => exact ⟨a, vs, rfl, h1.sq R.le, h2.length.trans hl, E, W, Γ, ds, Γ', R, h2, hb, k⟩
end
end MP

end
-- MP7
section
/-! MP7: iterators and list comprehensions. -/
namespace MP
open PySem L2
/-- J yields xs, as long as what stands in H1 and is not in M stays -/
structure ItOk (K : PySem.W.Frag) (W0 H1 : Hp) (M : Addr → Prop) (J : It) (xs : List D) : Prop where
  go : ∀ i H, i < xs.length → (∀ a o, H1 a = some o → ¬ M a → H a = some o) → J.go i H
  yl : ∀ i H x H' d W, xs[i]? = some d → (∀ a o, H1 a = some o → ¬ M a → H a = some o) → J.yld i H x H' → Ex W0 W → Le W H → ∃ W', PSt W H W' H' ∧ Dr K W' x d
  stop : ∀ H, (∀ a o, H1 a = some o → ¬ M a → H a = some o) → J.stop xs.length H
/-- the changeable addresses while what ls gives is walked -/
def muL (c : Cf) (ls : List Vl) : Addr → Prop := Cf.mu ⟨c.E, c.W, lockA (locks c.Γ ls) c.Γ, c.σ, c.H⟩
def denI (K : PySem.W.Frag) (Wx : WX) (g : List D → Option (List D)) (as : Ta) : TI := fun σ H R => ∃ E W Γ, Rel K ⟨E, W, Γ, σ, H⟩ ∧ PoR K Wx ⟨E, W, Γ, σ, H⟩ (evA as Γ) fun ls c1 =>
  ∃ ds xs, resA c1.Γ ls = some ds ∧ g ds = some xs ∧ ∀ J W2 H2, PSt c1.W c1.H W2 H2 → ItOk K W2 H2 (muL c1 ls) J xs → R J H2
abbrev W0x : WX := fun _ _ _ _ => False
theorem Rs.nox_ok {α : Type} {r : Rs α} {a : α} {Γ : List Slot} (h : r.nox = .ok a Γ) : r = .ok a Γ := by
  cases r with
  | ok _ _ => exact h
  | exn _ _ => cases h
  | stuck => cases h
theorem wipe_same {own L : List Nat} {σ σ' : St} (h : same L σ σ') (hs : ∀ i ∈ L, i ∈ own) : wipe σ' own = wipe σ own := by
  refine List.ext_getElem? fun i => ?_
  by_cases hi : i ∈ own
  · have none_of : ∀ (τ : St), (wipe τ own)[i]? = if i < τ.length then some none else none := fun τ => by
      have hl := wipe_length τ own
      by_cases hlt : i < τ.length
      · rw [if_pos hlt]
        cases e : (wipe τ own)[i]? with
        | none =>
          rw [List.getElem?_eq_none_iff, hl] at e
          omega
        | some o =>
          cases o with
          | none => rfl
          | some x => exact absurd hi (wipe_some e).2
      · rw [if_neg hlt, List.getElem?_eq_none_iff, hl]
        omega
    rw [none_of, none_of, h.1]
  · rw [wipe_out hi, wipe_out hi]
    exact h.2 i fun z => hi (hs i z)
section
variable {K : PySem.W.Frag} {Wx : WX} {c c1 cE : Cf}
/-- behind a walk: the slots of the comprehension's own names as before, what was locked unlocked -/
theorem unwalk {own L : List Nat} (R1 : Rel K c1) (hL : ∀ i ∈ L, ∃ b d, c1.Γ[i]? = some (.mt b d)) (hno : noMut own c1.Γ = true) (RE : Rel K cE) (hσ : cE.σ = wipe c1.σ own)
    (SE : Stp ⟨c1.E, c1.W, wipeG own (lockA L c1.Γ), wipe c1.σ own, c1.H⟩ cE) :
    Rel K ⟨cE.E, cE.W, keepG own c1.Γ (unlockA L cE.Γ), c1.σ, cE.H⟩ ∧ Stp c1 ⟨cE.E, cE.W, keepG own c1.Γ (unlockA L cE.Γ), c1.σ, cE.H⟩ := by
  have nom : ∀ j ∈ own, ∀ b d, c1.Γ[j]?.getD .no ≠ .mt b d ∧ c1.Γ[j]?.getD .no ≠ .lck b d := fun j hj b d => by
    have h := List.all_eq_true.mp hno j hj
    cases e : c1.Γ[j]? with
    | none => exact ⟨nofun, nofun⟩
    | some s =>
      rw [e] at h
      cases s with
      | no => exact ⟨nofun, nofun⟩
      | dat d => exact ⟨nofun, nofun⟩
      | mt _ _ => cases h
      | lck _ _ => cases h
  have sg : ∀ {j : Nat}, j ∉ own → cE.σ[j]? = c1.σ[j]? := fun {j} hj => by rw [hσ]; exact wipe_out hj
  -- a changeable slot behind the walk
  have ms : ∀ {j : Nat} {b : Bool} {d : D}, ((keepG own c1.Γ (unlockA L cE.Γ))[j]? = some (.mt b d) ∨ (keepG own c1.Γ (unlockA L cE.Γ))[j]? = some (.lck b d)) → j ∉ own ∧ (cE.Γ[j]? = some (.mt b d) ∨ cE.Γ[j]? = some (.lck b d)) := fun {j b d} h => by
    rcases h with h | h
    · rcases keepG_get h with ⟨n, z⟩ | ⟨n, z⟩
      · refine ⟨n, ?_⟩
        rcases unlockA_get z with ⟨y, _⟩ | ⟨b', d', _, y, e⟩
        · exact .inl y
        · cases e; exact .inr y
      · exact absurd z.symm (nom j n b d).1
    · rcases keepG_get h with ⟨n, z⟩ | ⟨n, z⟩
      · refine ⟨n, ?_⟩
        rcases unlockA_get z with ⟨y, _⟩ | ⟨b', d', _, y, e⟩
        · exact .inr y
        · cases e
      · exact absurd z.symm (nom j n b d).2
  have muL : ∀ {a}, Cf.mu ⟨c1.E, c1.W, wipeG own (lockA L c1.Γ), wipe c1.σ own, c1.H⟩ a → c1.mu a := fun {a} h => by
    obtain ⟨j, b, d, g, e⟩ := h
    rcases wipeG_get g with ⟨n, z⟩ | ⟨_, z⟩
    · rcases lockA_get z with ⟨y, _⟩ | ⟨_, _, _, _, y⟩
      · exact ⟨j, b, d, y, (wipe_out n).symm.trans e⟩
      · cases y
    · cases z
  have adL : ∀ {a}, Cf.ad ⟨c1.E, c1.W, wipeG own (lockA L c1.Γ), wipe c1.σ own, c1.H⟩ a → c1.ad a := fun {a} h => by
    obtain ⟨j, ⟨b, d, g⟩, e⟩ := h
    have : j ∉ own ∧ IsM c1.Γ j := by
      rcases g with g | g
      · rcases wipeG_get g with ⟨n, z⟩ | ⟨_, z⟩
        · rcases lockA_get z with ⟨y, _⟩ | ⟨_, _, _, _, y⟩
          · exact ⟨n, b, d, .inl y⟩
          · cases y
        · cases z
      · rcases wipeG_get g with ⟨n, z⟩ | ⟨_, z⟩
        · rcases lockA_get z with ⟨y, _⟩ | ⟨b', d', _, y, _⟩
          · exact ⟨n, b, d, .inr y⟩
          · exact ⟨n, b', d', .inl y⟩
        · cases z
    exact ⟨j, this.2, (wipe_out this.1).symm.trans e⟩
  have lkL : ∀ {j : Nat} {b : Bool} {d : D}, cE.Γ[j]? = some (.lck b d) → j ∉ own → ((j ∈ L ∧ ∃ d, c1.Γ[j]? = some (.mt b d)) ∨ ∃ d, c1.Γ[j]? = some (.lck b d)) := fun {j b d} g n => by
    obtain ⟨⟨d', z⟩, _⟩ := SE.lk j b d g
    rcases wipeG_get z with ⟨_, y⟩ | ⟨_, y⟩
    · rcases lockA_get y with ⟨w, _⟩ | ⟨_, _, m, w, e⟩
      · exact .inr ⟨_, w⟩
      · cases e; exact .inl ⟨m, _, w⟩
    · cases y
  refine ⟨⟨?_, RE.le, RE.ent, fun j d g => ?_, fun j b d g => ?_, fun i j a h1 h2 e1 e2 => ?_⟩, ⟨SE.ent, SE.w, fun a o h n => SE.fr a o h fun z => n (muL z), SE.th, fun a h => ?_, fun a h => ?_, fun a h => ?_, fun j b d g => ?_, fun j d g => ?_⟩⟩
  · show (keepG own c1.Γ (unlockA L cE.Γ)).length = c1.σ.length
    rw [keepG_len, unlockA_len, RE.len, hσ, wipe_length]
  · rcases keepG_get g with ⟨n, z⟩ | ⟨n, z⟩
    · rcases unlockA_get z with ⟨y, _⟩ | ⟨_, _, _, _, y⟩
      · obtain ⟨v, e1, e2⟩ := RE.dat j d y
        exact ⟨v, (sg n).symm.trans e1, e2⟩
      · cases y
    · cases e : c1.Γ[j]? with
      | none => rw [e] at z; cases z
      | some s =>
        rw [e] at z
        have z' : Slot.dat d = s := z
        rw [← z'] at e
        obtain ⟨v, e1, e2⟩ := R1.dat j d e
        exact ⟨v, e1, e2.mono SE.w⟩
  · obtain ⟨n, z⟩ := ms g
    obtain ⟨a, e1, e2, e3, e4⟩ := RE.am j b d z
    exact ⟨a, (sg n).symm.trans e1, e2, e3, e4⟩
  · obtain ⟨b1, d1, h1⟩ := h1
    obtain ⟨b2, d2, h2⟩ := h2
    obtain ⟨n1, z1⟩ := ms h1
    obtain ⟨n2, z2⟩ := ms h2
    exact RE.dist i j a ⟨b1, d1, z1⟩ ⟨b2, d2, z2⟩ ((sg n1).trans e1) ((sg n2).trans e2)
  · rcases SE.nw a h with z | z | z
    · exact .inl z
    · exact .inr (.inl z)
    · exact .inr (.inr (muL z))
  · obtain ⟨j, b, d, g, e⟩ := h
    obtain ⟨n, z⟩ := ms (.inl g)
    rcases z with z | z
    · rcases SE.mu a ⟨j, b, d, z, (sg n).trans e⟩ with y | y
      · exact .inl (muL y)
      · exact .inr y
    · -- it was locked here
      rcases lkL z n with ⟨y, w⟩ | ⟨d', y⟩
      · obtain ⟨b', d', w⟩ := hL j y
        exact .inl ⟨j, b', d', w, e⟩
      · exfalso
        rcases keepG_get g with ⟨_, x⟩ | ⟨n', _⟩
        · rcases unlockA_get x with ⟨x1, _⟩ | ⟨b2, d2, m, _, _⟩
          · rw [z] at x1; cases x1
          · obtain ⟨b3, d3, w⟩ := hL j m
            rw [y] at w; cases w
        · exact n n'
  · obtain ⟨j, ⟨b, d, g⟩, e⟩ := h
    obtain ⟨n, z⟩ := ms g
    rcases SE.ad a ⟨j, ⟨b, d, z⟩, (sg n).trans e⟩ with y | y
    · exact .inl (adL y)
    · exact .inr y
  · rcases keepG_get g with ⟨n, z⟩ | ⟨n, z⟩
    · rcases unlockA_get z with ⟨y, w⟩ | ⟨_, _, _, _, y⟩
      · rcases lkL y n with x | x
        · exact absurd rfl (w x.1 b d)
        · exact ⟨x, rfl⟩
      · cases y
    · exact absurd z.symm (nom j n b d).2
  · rcases keepG_get g with ⟨n, z⟩ | ⟨n, z⟩
    · rcases unlockA_get z with ⟨y, w⟩ | ⟨b', d', m, y, e⟩
      · obtain ⟨⟨d2, x⟩, _⟩ := SE.io j d y
        rcases wipeG_get x with ⟨_, x⟩ | ⟨_, x⟩
        · rcases lockA_get x with ⟨x, _⟩ | ⟨_, _, _, _, x⟩
          · exact ⟨⟨d2, x⟩, rfl⟩
          · cases x
        · cases x
      · cases e
        rcases lkL y n with ⟨_, x⟩ | ⟨d2, x⟩
        · exact ⟨x, rfl⟩
        · obtain ⟨b3, d3, w⟩ := hL j m
          rw [x] at w; cases w
    · exact absurd z.symm (nom j n false d).1
/-- the reading of a list comprehension -/
theorem den_lc {σ : St} {H : Hp} {Q : VK} {g : List D → Option (List D)} {as : Ta} {tg : Tg} {own : List Nat} {tc te : Tm} (hown : ∀ i ∈ slots tg, i ∈ own) (h : den K Wx (.lc g as tg own tc te) σ H Q) :
    tLc (denI K Wx g as) (denG K tg) (denT K W0x tc) (den K W0x te) own σ H Q := by
  obtain ⟨E, W, Γ, R, h⟩ := h
  simp only [ev] at h
  refine ⟨E, W, Γ, R, h.bind0.imp fun ls c1 R1 S1 es h1 => ?_⟩
  obtain ⟨E1, W1, Γ1, σ1, H1⟩ := c1
  cases es
  obtain rfl : E1 = E := S1.ent
  dsimp only at h1
  cases er : resA Γ1 ls with
  | none => rw [er] at h1; exact h1.elim
  | some ds =>
    rw [er] at h1
    dsimp only at h1
    cases eg : g ds with
    | none => rw [eg] at h1; exact h1.elim
    | some xs =>
      rw [eg] at h1
      dsimp only at h1
      split at h1
      rotate_left
      · exact h1.elim
      rename_i cd
      obtain ⟨hlen, hno⟩ := cd
      refine ⟨ds, xs, rfl, eg, fun J W2 H2 p2 IT D hD => ?_⟩
      obtain ⟨R2, S2⟩ := Rel.pst R1 p2
      dsimp only at R2 S2
      generalize hLk : locks Γ1 ls = L at h1
      have hL : ∀ i ∈ L, ∃ b d, Γ1[i]? = some (.mt b d) := fun i hi => by rw [← hLk] at hi; exact locks_mt hi
      -- where the walk begins
      have RL : Rel K ⟨E1, W2, wipeG own (lockA L Γ1), wipe σ own, H2⟩ := (R2.lockA (L := L)).wipe
      generalize hcL : (⟨E1, W2, wipeG own (lockA L Γ1), wipe σ own, H2⟩ : Cf) = cL at RL
      have cLE : cL.E = E1 := by rw [← hcL]
      have cLW : cL.W = W2 := by rw [← hcL]
      have cLH : cL.H = H2 := by rw [← hcL]
      have cLσ : cL.σ = wipe σ own := by rw [← hcL]
      have cLΓ : cL.Γ = wipeG own (lockA L Γ1) := by rw [← hcL]
      have muLe : ∀ a, cL.mu a → muL ⟨E1, W1, Γ1, σ, H1⟩ ls a := fun a ⟨j, b, d, gg, e⟩ => by
        rw [cLΓ] at gg
        rw [cLσ] at e
        rcases wipeG_get gg with ⟨n, z⟩ | ⟨_, z⟩
        · rw [← hLk] at z
          exact ⟨j, b, d, z, (wipe_out n).symm.trans e⟩
        · cases z
      refine ⟨fun i m H => m = xs.length - i ∧ i ≤ xs.length ∧ ∃ W Γ acc aV, Rel K ⟨E1, W, Γ, wipe σ own, H⟩ ∧ Stp cL ⟨E1, W, Γ, wipe σ own, H⟩ ∧ H D = some (.lst aV) ∧ DrA K W aV acc ∧ W D = none ∧ ¬ Cf.ad ⟨E1, W, Γ, wipe σ own, H⟩ D ∧ acc.length ≤ i ∧
        lcLoop (ev tc) (ev te) tg own xs [] (wipeG own (lockA L Γ1)) = lcLoop (ev tc) (ev te) tg own (xs.drop i) acc Γ, ⟨xs.length, by simp, Nat.zero_le _, W2, wipeG own (lockA L Γ1), [], [], ?_⟩, ?_⟩
      · have p3 : PSt cL.W cL.H cL.W (upd cL.H D (.lst [])) := PSt.fresh RL.le (by rw [cLH]; exact hD)
        obtain ⟨R3, S3⟩ := RL.pst p3
        have nad : ¬ cL.ad D := fun z => (RL.ad_ne z).1 (by rw [cLH]; exact hD)
        rw [cLE, cLW, cLH, cLσ, cLΓ] at R3 S3
        refine ⟨R3, S3, upd_same, .nil, R2.le.no hD, fun z => nad ?_, Nat.le_refl _, ?_⟩
        · obtain ⟨j, g, e⟩ := z
          exact ⟨j, by rw [cLΓ]; exact g, by rw [cLσ]; exact e⟩
        · rw [List.drop_zero]
      · rintro i m Hi ⟨rfl, hi, Wi, Γi, acc, aV, Ri, Si, hDi, hA, hWD, nad, hal, hlp⟩
        have kp : ∀ a o, H2 a = some o → ¬ muL ⟨E1, W1, Γ1, σ, H1⟩ ls a → Hi a = some o := fun a o e n => Si.fr a o (by rw [cLH]; exact e) fun z => n (muLe a z)
        by_cases hlt : i < xs.length
        rotate_left
        · -- the end
          have ei : i = xs.length := by omega
          subst ei
          refine .inl ⟨IT.stop Hi kp, ?_⟩
          rw [List.drop_length] at hlp
          rw [hlp] at h1
          simp only [lcLoop, Rs.bind] at h1
          have SE : Stp ⟨E1, W2, wipeG own (lockA L Γ1), wipe σ own, H2⟩ ⟨E1, Wi, Γi, wipe σ own, Hi⟩ := by rw [hcL]; exact Si
          obtain ⟨R5, S5⟩ := unwalk (c1 := ⟨E1, W2, Γ1, σ, H2⟩) R2 hL hno Ri rfl SE
          refine h1 Wi Hi R5 (S1.trans (S2.trans S5)) _ (.new (S1.back D ((S2.back D hD))) hWD (fun z => ?_) (.lst hDi hA))
          rcases S5.ad D z with y | y
          · exact (R2.ad_ne y).1 hD
          · obtain ⟨j, ⟨b, d, gg⟩, e⟩ := z
            -- a changeable slot with D was one in the walk
            refine nad ⟨j, ?_, ?_⟩
            · rcases gg with gg | gg
              · rcases keepG_get gg with ⟨n, z⟩ | ⟨n, z⟩
                · rcases unlockA_get z with ⟨w, _⟩ | ⟨b', d', _, w, _⟩
                  · exact ⟨b, d, .inl w⟩
                  · exact ⟨b', d', .inr w⟩
                · exfalso
                  have h := List.all_eq_true.mp hno j n
                  cases q : Γ1[j]? with
                  | none => rw [q] at z; cases z
                  | some s =>
                    rw [q] at z
                    have z' : Slot.mt b d = s := z
                    rw [q, ← z'] at h
                    cases h
              · rcases keepG_get gg with ⟨n, z⟩ | ⟨n, z⟩
                · rcases unlockA_get z with ⟨w, _⟩ | ⟨b', d', _, w, _⟩
                  · exact ⟨b, d, .inr w⟩
                  · exact ⟨b', d', .inr w⟩
                · exfalso
                  have h := List.all_eq_true.mp hno j n
                  cases q : Γ1[j]? with
                  | none => rw [q] at z; cases z
                  | some s =>
                    rw [q] at z
                    have z' : Slot.lck b d = s := z
                    rw [q, ← z'] at h
                    cases h
            · have hj : j ∉ own := fun n => by
                have h := List.all_eq_true.mp hno j n
                rcases gg with gg | gg
                · rcases keepG_get gg with ⟨n', _⟩ | ⟨_, z⟩
                  · exact n' n
                  · cases q : Γ1[j]? with
                    | none => rw [q] at z; cases z
                    | some s =>
                      rw [q] at z
                      have z' : Slot.mt b d = s := z
                      rw [q, ← z'] at h
                      cases h
                · rcases keepG_get gg with ⟨n', _⟩ | ⟨_, z⟩
                  · exact n' n
                  · cases q : Γ1[j]? with
                    | none => rw [q] at z; cases z
                    | some s =>
                      rw [q] at z
                      have z' : Slot.lck b d = s := z
                      rw [q, ← z'] at h
                      cases h
              exact (wipe_out hj).trans e
        · -- a turn
          have hx : xs[i]? = some xs[i] := List.getElem?_eq_getElem hlt
          have hdr : xs.drop i = xs[i] :: xs.drop (i + 1) := List.drop_eq_getElem_cons hlt
          rw [hdr] at hlp
          simp only [lcLoop] at hlp
          have h1' := h1
          rw [hlp] at h1'
          refine .inr ⟨IT.go i Hi hlt kp, fun H' => ∃ W Γ acc' aV', Rel K ⟨E1, W, Γ, wipe σ own, H'⟩ ∧ Stp cL ⟨E1, W, Γ, wipe σ own, H'⟩ ∧ H' D = some (.lst aV') ∧ DrA K W aV' acc' ∧ W D = none ∧ ¬ Cf.ad ⟨E1, W, Γ, wipe σ own, H'⟩ D ∧ acc'.length ≤ i + 1 ∧
            lcLoop (ev tc) (ev te) tg own xs [] (wipeG own (lockA L Γ1)) = lcLoop (ev tc) (ev te) tg own (xs.drop (i + 1)) acc' Γ,
            fun H' z => ⟨xs.length - (i + 1), by omega, rfl, hlt, z⟩, fun x H' y => ?_⟩
          have exW : Ex W2 Wi := by
            have := Si.w
            rw [cLW] at this
            exact this
          obtain ⟨W3, p3, dx⟩ := IT.yl i Hi x H' xs[i] Wi hx kp y exW Ri.le
          obtain ⟨R3, S3⟩ := Ri.pst p3
          dsimp only at R3 S3
          have hD3 : H' D = some (.lst aV) := p3.h D _ hDi
          cases eb : bnd tg xs[i] Γi with
          | none => rw [eb] at h1'; exact h1'.elim
          | some Γ4 =>
            rw [eb] at h1' hlp
            refine ⟨E1, W3, Γi, xs[i], Γ4, R3, dx, eb, fun σ4 R4 S4 s4 => ⟨(wipe_same s4 hown).trans ?_, ?_⟩⟩
            · refine List.ext_getElem? fun k => ?_
              by_cases hk : k ∈ own
              · have z : ∀ (τ : St), (wipe τ own)[k]? = if k < τ.length then some none else none := fun τ => by
                  have hl := wipe_length τ own
                  by_cases hlt : k < τ.length
                  · rw [if_pos hlt]
                    cases e : (wipe τ own)[k]? with
                    | none =>
                      rw [List.getElem?_eq_none_iff, hl] at e
                      omega
                    | some o =>
                      cases o with
                      | none => rfl
                      | some x => exact absurd hk (wipe_some e).2
                  · rw [if_neg hlt, List.getElem?_eq_none_iff, hl]
                    omega
                rw [z, z, wipe_length]
              · rw [wipe_out hk]
            · have SL4 : Stp cL ⟨E1, W3, Γ4, σ4, H'⟩ := Si.trans (S3.trans S4)
              have S34 : Stp ⟨E1, Wi, Γi, wipe σ own, Hi⟩ ⟨E1, W3, Γ4, σ4, H'⟩ := S3.trans S4
              -- what stays true of D
              have dk : ∀ {c' : Cf}, Stp ⟨E1, W3, Γ4, σ4, H'⟩ c' → ¬ c'.ad D := fun {c'} S z => by
                rcases (S34.trans S).ad D z with w | w
                · exact nad w
                · have w' : Hi D = none := w
                  rw [hDi] at w'; cases w'
              have dh : ∀ {c' : Cf}, Stp ⟨E1, W3, Γ4, σ4, H'⟩ c' → c'.H D = some (.lst aV) := fun {c'} S => (S34.trans S).fr D _ hDi fun z => nad (Cf.mu_ad z)
              have dw : ∀ {c' : Cf}, Stp ⟨E1, W3, Γ4, σ4, H'⟩ c' → c'.W D = none := fun {c'} S => by
                by_cases q : c'.W D = none
                · exact q
                · rcases (S34.trans S).nw D q with w | w | w
                  · exact absurd hWD w
                  · have w' : Hi D = none := w
                    rw [hDi] at w'; cases w'
                  · exact absurd (Cf.mu_ad w) nad
              have wex : ∀ {c' : Cf}, Stp ⟨E1, W3, Γ4, σ4, H'⟩ c' → Ex Wi c'.W := fun {c'} S => (S34.trans S).w
              -- wiped behind a turn
              have wp : ∀ {W5 H5 : Hp} {Γ5 : List Slot}, Rel K ⟨E1, W5, Γ5, σ4, H5⟩ → Stp cL ⟨E1, W5, Γ5, σ4, H5⟩ → wipe σ4 own = wipe σ own → Rel K ⟨E1, W5, wipeG own Γ5, wipe σ own, H5⟩ ∧ Stp cL ⟨E1, W5, wipeG own Γ5, wipe σ own, H5⟩ ∧ Stp ⟨E1, W5, Γ5, σ4, H5⟩ ⟨E1, W5, wipeG own Γ5, wipe σ own, H5⟩ := fun {W5 H5 Γ5} R5 S5 e => by
                have a := R5.wipe (own := own)
                have b := Stp.wipe (c := ⟨E1, W5, Γ5, σ4, H5⟩) (own := own)
                dsimp only at a b
                rw [e] at a b
                exact ⟨a, S5.trans b, b⟩
              have hw4 : wipe σ4 own = wipe σ own := by
                refine (wipe_same s4 hown).trans ?_
                refine List.ext_getElem? fun k => ?_
                by_cases hk : k ∈ own
                · have z : ∀ (τ : St), (wipe τ own)[k]? = if k < τ.length then some none else none := fun τ => by
                    have hl := wipe_length τ own
                    by_cases hlt : k < τ.length
                    · rw [if_pos hlt]
                      cases e : (wipe τ own)[k]? with
                      | none =>
                        rw [List.getElem?_eq_none_iff, hl] at e
                        omega
                      | some o =>
                        cases o with
                        | none => rfl
                        | some x => exact absurd hk (wipe_some e).2
                    · rw [if_neg hlt, List.getElem?_eq_none_iff, hl]
                      omega
                  rw [z, z, wipe_length]
                · rw [wipe_out hk]
              simp only at h1' hlp
              cases ec : ev tc Γ4 with
              | stuck => rw [ec] at h1'; exact h1'.elim
              | exn xn Γ5 => rw [ec] at h1'; exact h1'.elim
              | ok l Γ5 =>
                rw [ec] at h1' hlp
                simp only [Rs.nox, Rs.bind] at h1' hlp
                refine ⟨E1, W3, Γ4, R4, ?_⟩
                rw [ec]
                intro W5 H5 R5 S5
                dsimp only at R5 S5
                cases l with
                | ref _ => exact h1'.elim
                | new _ => exact h1'.elim
                | dat dl =>
                  cases dl with
                  | bl bb =>
                    cases bb with
                    | true =>
                      refine ⟨true, rfl, ?_⟩
                      dsimp only
                      rw [if_pos rfl]
                      simp only at hlp
                      cases ee : ev te Γ5 with
                      | stuck => rw [ee] at h1'; exact h1'.elim
                      | exn xn Γ6 => rw [ee] at h1'; exact h1'.elim
                      | ok le Γ6 =>
                        rw [ee] at h1' hlp
                        simp only [Rs.nox, Rs.bind] at h1' hlp
                        refine ⟨E1, W5, Γ5, R5, ?_⟩
                        rw [ee]
                        intro W6 H6 R6 S6 vy Vy
                        dsimp only at R6 S6 Vy
                        cases es : esc le Γ6 with
                        | stuck => rw [es] at h1'; exact h1'.elim
                        | exn xn Γ7 => exact (esc_ne es).elim
                        | ok dy Γ7 =>
                          rw [es] at h1' hlp
                          simp only [Rs.bind] at h1' hlp
                          obtain ⟨W7, R7, S7, dd, x7, _, m7⟩ := R6.esc S6 Vy es
                          dsimp only at R7 S7
                          have S57 : Stp ⟨E1, W3, Γ4, σ4, H'⟩ ⟨E1, W7, Γ7, σ4, H6⟩ := S5.trans S7
                          have hD7 : H6 D = some (.lst aV) := dh S57
                          have hW7 : W7 D = none := dw S57
                          have nD7 := dk S57
                          -- the new item
                          have R8 : Rel K ⟨E1, W7, Γ7, σ4, upd H6 D (.lst (aV ++ [vy]))⟩ := by
                            refine ⟨R7.len, fun a o e => ?_, fun a z => ?_, R7.dat, fun j b d g => ?_, R7.dist⟩
                            · have ne : a ≠ D := fun z => by
                                have e' : W7 a = some o := e
                                rw [z, hW7] at e'
                                cases e'
                              rcases R7.le a o e with w | ⟨ob, w⟩
                              · exact .inl (by show upd H6 D _ a = _; rw [upd_ne ne]; exact w)
                              · exact .inr ⟨ob, by show upd H6 D _ a = _; rw [upd_ne ne]; exact w⟩
                            · show upd H6 D _ a ≠ none
                              by_cases q : a = D
                              · subst q; rw [upd_same]; exact nofun
                              · rw [upd_ne q]; exact R7.ent a z
                            · obtain ⟨a, e1, e2, e3, e4⟩ := R7.am j b d g
                              have ne : a ≠ D := fun z => nD7 ⟨j, ⟨b, d, g⟩, z ▸ e1⟩
                              exact ⟨a, e1, e2, e3.mono (Ex.refl _) fun o w => by show upd H6 D _ a = _; rw [upd_ne ne]; exact w, e4⟩
                          have S8 : Stp cL ⟨E1, W7, Γ7, σ4, upd H6 D (.lst (aV ++ [vy]))⟩ := by
                            have q := SL4.trans S57
                            have cD : cL.H D = none := by rw [cLH]; exact hD
                            refine ⟨q.ent, q.w, fun a o e n => ?_, fun a z => ?_, q.nw, q.mu, q.ad, q.lk, q.io⟩
                            · have ne : a ≠ D := fun z => by rw [z, cD] at e; cases e
                              show upd H6 D _ a = _
                              rw [upd_ne ne]
                              exact q.fr a o e n
                            · show upd H6 D _ a ≠ none
                              by_cases w : a = D
                              · subst w; rw [upd_same]; exact nofun
                              · rw [upd_ne w]; exact q.th a z
                          obtain ⟨R9, S9, T9⟩ := wp R8 S8 hw4
                          refine ⟨aV, hD7, ?_, W7, wipeG own Γ7, acc ++ [dy], aV ++ [vy], R9, S9, upd_same, ?_, hW7, fun z => ?_, by simp; omega, hlp⟩
                          · have e1 : aV.length = acc.length := hA.length
                            exact lim_lt (Nat.lt_of_le_of_lt (e1 ▸ hal) (Nat.lt_of_lt_of_le hlt hlen))
                          · exact (hA.mono (wex S57)).append (.cons dd .nil)
                          · obtain ⟨j, g, e⟩ := z
                            obtain ⟨b, d, g⟩ := g
                            have hj : j ∉ own ∧ IsM Γ7 j := by
                              rcases g with g | g
                              · rcases wipeG_get g with ⟨n, w⟩ | ⟨_, w⟩
                                · exact ⟨n, b, d, .inl w⟩
                                · cases w
                              · rcases wipeG_get g with ⟨n, w⟩ | ⟨_, w⟩
                                · exact ⟨n, b, d, .inr w⟩
                                · cases w
                            refine nD7 ⟨j, hj.2, ?_⟩
                            have e' : (wipe σ own)[j]? = some (some (V.ref D)) := e
                            rw [← hw4, wipe_out hj.1] at e'
                            exact e'
                    | false =>
                      refine ⟨false, rfl, ?_⟩
                      dsimp only
                      rw [if_neg Bool.false_ne_true]
                      simp only at hlp
                      obtain ⟨R9, S9, T9⟩ := wp R5 (SL4.trans S5) hw4
                      have nz : ¬ Cf.ad ⟨E1, W5, wipeG own Γ5, wipe σ own, H5⟩ D := fun z => by
                        rcases T9.ad D z with w | w
                        · exact dk S5 w
                        · have w' : H5 D = none := w
                          have w2 : H5 D = some (.lst aV) := dh S5
                          rw [w2] at w'
                          cases w'
                      exact ⟨W5, wipeG own Γ5, acc, aV, R9, S9, dh S5, hA.mono (wex S5), dw S5, nz, by omega, hlp⟩
                  | _ => exact h1'.elim
end
end MP

end
-- MP8
section
/-! MP8: statements. -/
namespace MP
open PySem L2
/-- what is handed back: a thing that is new since the def's entry, or a datum -/
inductive ORelE (K : PySem.W.Frag) (c : Cf) : V → Ou → Prop
  | dat {v : V} {d : D} : Dr K c.W v d → ORelE K c v (.dat d)
  | new {a : Addr} {d : D} : c.E a = none → c.W a = none → ¬ c.ad a → MutAt K c.W c.H a d → ORelE K c (.ref a) (.new d)
def FlP (K : PySem.W.Frag) (c : Cf) (D : Ends) : Fl → Prop
  | .nx => D.nx c.σ c.H
  | .bk => D.bk c.σ c.H
  | .ct => D.ct c.σ c.H
  | .rt o => ∀ v, ORelE K c v o → D.rt v c.H
def PoS (K : PySem.W.Frag) (Wx : WX) (c : Cf) (r : Rs Fl) (D : Ends) : Prop := match r with
  | .ok f Γ => ∀ W' σ' H', Rel K ⟨c.E, W', Γ, σ', H'⟩ → Stp c ⟨c.E, W', Γ, σ', H'⟩ → FlP K ⟨c.E, W', Γ, σ', H'⟩ D f
  | .exn x Γ => ∀ cls d W' σ' H', Rel K ⟨c.E, W', Γ, σ', H'⟩ → Stp c ⟨c.E, W', Γ, σ', H'⟩ → XRel K W' H' x cls d → Wx cls d σ' H'
  | .stuck => False
def denS (K : PySem.W.Frag) (Wx : WX) (n : Nat) (s : Sm) : TS := fun D σ H => ∃ E W Γ, Rel K ⟨E, W, Γ, σ, H⟩ ∧ PoS K Wx ⟨E, W, Γ, σ, H⟩ (ex n s Γ) D
def denSs (K : PySem.W.Frag) (Wx : WX) (n : Nat) (s : Ss) : TS := fun D σ H => ∃ E W Γ, Rel K ⟨E, W, Γ, σ, H⟩ ∧ PoS K Wx ⟨E, W, Γ, σ, H⟩ (exs n s Γ) D
section
variable {K : PySem.W.Frag} {Wx : WX} {α : Type} {c c1 : Cf} {D : Ends} {σ : St} {H : Hp} {n : Nat}
theorem PoS.bindR {r : Rs α} {f : α → List Slot → Rs Fl} (h : PoS K Wx c (r.bind f) D) : PoR K Wx c r fun a c1 => PoS K Wx c (f a c1.Γ) D := by
  cases r with
  | ok a Γ => exact fun W' H' R S => h
  | exn x Γ => exact fun cls d W' H' R S X => h cls d W' c.σ H' R S X
  | stuck => exact h
theorem PoS.bindAt {r : Rs α} {f : α → List Slot → Rs Fl} (h : PoS K Wx c (r.bind f) D) (S : Stp c c1) : PoR K Wx c1 r fun a c2 => PoS K Wx c (f a c2.Γ) D := by
  have e := S.ent
  cases r with
  | ok a Γ => exact fun W' H' R S => h
  | exn x Γ =>
    intro cls d W' H' R' S' X
    rw [e] at R' S'
    exact h cls d W' c1.σ H' R' (S.trans S') X
  | stuck => exact h
theorem PoS.later {r : Rs Fl} (h : PoS K Wx c r D) (S : Stp c c1) : PoS K Wx c1 r D := by
  have e := S.ent
  cases r with
  | ok f Γ =>
    intro W' σ' H' R' S'
    rw [e] at R' S' ⊢
    exact h W' σ' H' R' (S.trans S')
  | exn x Γ =>
    intro cls d W' σ' H' R' S' X
    rw [e] at R' S'
    exact h cls d W' σ' H' R' (S.trans S') X
  | stuck => exact h
theorem Rel.ent0 (R : Rel K c) {a : Addr} (h : c.H a = none) : c.E a = none := by
  by_cases q : c.E a = none
  · exact q
  · exact absurd h (R.ent a q)
theorem denSs_nil (h : denSs K Wx n .nil D σ H) : tNext D σ H := by
  obtain ⟨E, W, Γ, R, h⟩ := h
  exact h W σ H R (Stp.refl _)
theorem denSs_cons {s : Sm} {r : Ss} (h : denSs K Wx n (.cons s r) D σ H) : tSeq (denS K Wx n s) (denSs K Wx n r) D σ H := by
  obtain ⟨E, W, Γ, R, h⟩ := h
  simp only [exs] at h
  refine ⟨E, W, Γ, R, ?_⟩
  cases e : ex n s Γ with
  | stuck => rw [e] at h; exact h
  | exn x Γ1 => rw [e] at h; exact h
  | ok f Γ1 =>
    rw [e] at h
    simp only [Rs.bind] at h
    intro W' σ' H' R' S'
    cases f with
    | nx => exact ⟨E, W', Γ1, R', PoS.later h S'⟩
    | rt o => exact h W' σ' H' R' S'
    | bk => exact h W' σ' H' R' S'
    | ct => exact h W' σ' H' R' S'
theorem store_ok {i : Nat} {l : Vl} {v : V} {Γ' : List Slot} (R : Rel K c) (R1 : Rel K c1) (S1 : Stp c c1) (V : VRel K c c1 v l) (e : store i l c1.Γ = .ok () Γ') :
    ∃ W', Rel K ⟨c1.E, W', Γ', c1.σ.set i (some v), c1.H⟩ ∧ Stp c ⟨c1.E, W', Γ', c1.σ.set i (some v), c1.H⟩ := by
  unfold store at e
  split at e
  rotate_left
  · cases e
  rename_i hi
  have gen : (∀ d, l ≠ .new d) → ((esc l c1.Γ).bind fun d Γ1 => Rs.ok () (Γ1.set i (.dat d))) = .ok () Γ' → ∃ W', Rel K ⟨c1.E, W', Γ', c1.σ.set i (some v), c1.H⟩ ∧ Stp c ⟨c1.E, W', Γ', c1.σ.set i (some v), c1.H⟩ := fun _ e => by
    cases es : esc l c1.Γ with
    | stuck => rw [es] at e; cases e
    | exn x Γ2 => exact (esc_ne es).elim
    | ok d Γ2 =>
      rw [es] at e
      cases e
      obtain ⟨W2, R2, S2, d2, _, _, _⟩ := R1.esc S1 V es
      have hi2 : i < Γ2.length := by
        have := R2.len
        have := R1.len
        simp only at *
        omega
      obtain ⟨R3, S3⟩ := R2.setDat d2 hi2
      exact ⟨W2, R3, S2.trans S3⟩
  cases V with
  | dat q => exact gen nofun e
  | ref q => exact gen nofun e
  | @new a d h0 hw hm ha =>
    cases e
    obtain ⟨R3, S3⟩ := R1.setNew S1 h0 (by rw [S1.ent]; exact R.ent0 h0) hw hm ha hi
    exact ⟨c1.W, R3, S3⟩
theorem store_ne {i : Nat} {l : Vl} {Γ Γ' : List Slot} {x : Xn} (e : store i l Γ = .exn x Γ') : False := by
  unfold store at e
  split at e
  · split at e
    · cases e
    · cases es : esc l Γ with
      | stuck => rw [es] at e; cases e
      | exn y Γ2 => exact esc_ne es
      | ok d Γ2 => rw [es] at e; cases e
  · cases e
theorem denS_set {i : Nat} {t : Tm} (h : denS K Wx n (.set i t) D σ H) : tAsg (den K Wx t) (gName i) D σ H := by
  obtain ⟨E, W, Γ, R, h⟩ := h
  simp only [ex] at h
  refine ⟨E, W, Γ, R, h.bindR.imp fun l c1 R1 S1 es h1 v V => ?_⟩
  obtain ⟨E1, W1, Γ1, σ1, H1⟩ := c1
  cases es
  obtain rfl : E1 = E := S1.ent
  cases e : store i l Γ1 with
  | stuck => rw [show (⟨E1, W1, Γ1, σ, H1⟩ : Cf).Γ = Γ1 from rfl, e] at h1; exact h1.elim
  | exn x Γ2 => exact (store_ne e).elim
  | ok u Γ2 =>
    rw [show (⟨E1, W1, Γ1, σ, H1⟩ : Cf).Γ = Γ1 from rfl, e] at h1
    obtain ⟨W2, R2, S2⟩ := store_ok R R1 S1 V e
    exact h1 W2 _ H1 R2 S2
theorem denS_unp {tg : Tg} {t : Tm} (h : denS K Wx n (.unp tg t) D σ H) : tAsg (den K Wx t) (denG K tg) D σ H := by
  obtain ⟨E, W, Γ, R, h⟩ := h
  simp only [ex] at h
  refine ⟨E, W, Γ, R, h.bindR.imp fun l c1 R1 S1 es h1 v V => ?_⟩
  obtain ⟨E1, W1, Γ1, σ1, H1⟩ := c1
  cases es
  obtain rfl : E1 = E := S1.ent
  dsimp only at h1
  cases e : res Γ1 l with
  | none => rw [e] at h1; exact h1.elim
  | some d =>
    rw [e] at h1
    cases d with
    | tup ds =>
      dsimp only at h1
      cases eb : bnd tg (.tup ds) Γ1 with
      | none => rw [eb] at h1; exact h1.elim
      | some Γ2 =>
        rw [eb] at h1
        have hd : Dr K W1 v (.tup ds) := by
          cases R1.top V e with
          | dat q => exact q
          | mt q => cases q
        exact ⟨E1, W1, Γ1, .tup ds, Γ2, R1, hd, eb, fun σ' R' S' _ => h1 W1 σ' H1 R' (S1.trans S')⟩
    | _ => exact h1.elim
theorem denS_drop {t : Tm} (h : denS K Wx n (.drop t) D σ H) : tDrop (den K Wx t) D σ H := by
  obtain ⟨E, W, Γ, R, h⟩ := h
  simp only [ex] at h
  refine ⟨E, W, Γ, R, h.bindR.imp fun l c1 R1 S1 es h1 v V => ?_⟩
  obtain ⟨E1, W1, Γ1, σ1, H1⟩ := c1
  cases es
  obtain rfl : E1 = E := S1.ent
  exact h1 W1 σ H1 R1 S1
theorem Rel.setNo {i : Nat} (R : Rel K c) : Rel K ⟨c.E, c.W, c.Γ.set i .no, c.σ, c.H⟩ ∧ Stp c ⟨c.E, c.W, c.Γ.set i .no, c.σ, c.H⟩ := by
  refine ⟨⟨by simp [R.len], R.le, R.ent, fun j d g => ?_, fun j b d g => ?_, fun j k a h1 h2 => R.dist j k a (isM_set no_nm h1).2 (isM_set no_nm h2).2⟩, ⟨rfl, Ex.refl _, fun _ _ h _ => h, fun _ h => h, fun _ h => .inl h, fun a h => ?_, fun a h => ?_, fun j b d g => ?_, fun j d g => ?_⟩⟩
  · rcases get_set g with ⟨_, e, _⟩ | ⟨_, e⟩
    · cases e
    · exact R.dat j d e
  · rcases g with g | g
    · rcases get_set g with ⟨_, e, _⟩ | ⟨_, e⟩
      · cases e
      · exact R.am j b d (.inl e)
    · rcases get_set g with ⟨_, e, _⟩ | ⟨_, e⟩
      · cases e
      · exact R.am j b d (.inr e)
  · obtain ⟨j, b, d, g, e⟩ := h
    rcases get_set g with ⟨_, z, _⟩ | ⟨_, z⟩
    · cases z
    · exact .inl ⟨j, b, d, z, e⟩
  · obtain ⟨j, g, e⟩ := h
    exact .inl ⟨j, (isM_set no_nm g).2, e⟩
  · rcases get_set g with ⟨_, z, _⟩ | ⟨_, z⟩
    · cases z
    · exact ⟨⟨d, z⟩, rfl⟩
  · rcases get_set g with ⟨_, z, _⟩ | ⟨_, z⟩
    · cases z
    · exact ⟨⟨d, z⟩, rfl⟩
theorem denS_ret {t : Tm} (h : denS K Wx n (.ret t) D σ H) : tRet (den K Wx t) D σ H := by
  obtain ⟨E, W, Γ, R, h⟩ := h
  simp only [ex] at h
  refine ⟨E, W, Γ, R, h.bindR.imp fun l c1 R1 S1 es h1 v V => ?_⟩
  obtain ⟨E1, W1, Γ1, σ1, H1⟩ := c1
  cases es
  obtain rfl : E1 = E := S1.ent
  dsimp only at h1
  cases V with
  | dat q => exact h1 W1 σ H1 R1 S1 v (.dat q)
  | @new a d h0 hw hm ha => exact h1 W1 σ H1 R1 S1 _ (.new (R.ent0 h0) hw hm ha)
  | @ref v i q =>
    unfold retV at h1
    dsimp only at h1
    cases g : Γ1[i]? with
    | none => rw [g] at h1; exact h1.elim
    | some s =>
      rw [g] at h1
      cases s with
      | no => exact h1.elim
      | lck b d => exact h1.elim
      | dat d =>
        obtain ⟨v', e1, e2⟩ := R1.dat i d g
        rw [q] at e1
        cases e1
        exact h1 W1 σ H1 R1 S1 v (.dat e2)
      | mt b d =>
        cases b with
        | false => exact h1.elim
        | true =>
          obtain ⟨a, e1, e2, e3, e4⟩ := R1.mt i true d g
          rw [q] at e1
          cases e1
          obtain ⟨R2, S2⟩ := R1.setNo (i := i)
          refine h1 W1 σ H1 R2 (S1.trans S2) _ (.new (e4 rfl) e2 (fun z => ?_) e3)
          obtain ⟨j, mj, ej⟩ := z
          obtain ⟨nj, mj⟩ := isM_set no_nm mj
          exact nj (R1.dist j i a mj ⟨true, d, .inl g⟩ ej q)
theorem denS_ite {t : Tm} {a b : Ss} (h : denS K Wx n (.ite t a b) D σ H) : tIfS (denT K Wx t) (denSs K Wx n a) (denSs K Wx n b) D σ H := by
  obtain ⟨E, W, Γ, R, h⟩ := h
  simp only [ex] at h
  refine ⟨E, W, Γ, R, h.bindR.imp fun l c1 R1 S1 es h1 => ?_⟩
  obtain ⟨E1, W1, Γ1, σ1, H1⟩ := c1
  cases es
  split at h1
  · refine ⟨true, rfl, ?_⟩
    dsimp only
    rw [if_pos rfl]
    exact ⟨E1, W1, Γ1, R1, h1.later S1⟩
  · refine ⟨false, rfl, ?_⟩
    dsimp only
    rw [if_neg Bool.false_ne_true]
    exact ⟨E1, W1, Γ1, R1, h1.later S1⟩
  · exact h1.elim
end
/-- x[k] = e by values -/
def rSt (K : PySem.W.Frag) (f : D → D → D → Option D) : TSet := fun o i v H Q =>
  ∃ a W d dk dv d', o = .ref a ∧ W a = none ∧ Le W H ∧ MutAt K W H a d ∧ Dr K W i dk ∧ Dr K W v dv ∧ f d dk dv = some d' ∧ ∀ W' H', MSt K W H a d' W' H' → Q H'
section
variable {K : PySem.W.Frag} {Wx : WX} {c c1 : Cf} {E0 : Ends} {σ : St} {H : Hp} {n : Nat}
theorem denS_sub {f : D → D → D → Option D} {i : Nat} {k t : Tm} (h : denS K Wx n (.sub f i k t) E0 σ H) : tAsg (den K Wx t) (gSub (tVar i) (den K Wx k) (rSt K f)) E0 σ H := by
  obtain ⟨E, W, Γ, R, h⟩ := h
  simp only [ex] at h
  split at h
  rotate_left
  · exact h.elim
  rename_i hmt
  obtain ⟨b0, d0, g0⟩ := isMt_iff hmt
  obtain ⟨a, ea, _⟩ := R.mt i b0 d0 g0
  refine ⟨E, W, Γ, R, h.bindR.imp fun l c1 R1 S1 es h1 v Vv => ?_⟩
  obtain ⟨E1, W1, Γ1, σ1, H1⟩ := c1
  cases es
  obtain rfl : E1 = E := S1.ent
  dsimp only at h1
  refine ⟨.ref a, ea, E1, W1, Γ1, R1, (PoS.bindAt h1 S1).imp fun lk c2 R2 S2 es2 h2 vk Vk => ?_⟩
  obtain ⟨E2, W2, Γ2, σ2, H2⟩ := c2
  cases es2
  obtain rfl : E2 = E1 := S2.ent
  dsimp only at h2
  cases ee : escA [l, lk] Γ2 with
  | stuck => rw [ee] at h2; exact h2.elim
  | exn x Γ3 => exact (escA_ne ee).elim
  | ok ds Γ3 =>
    rw [ee] at h2
    simp only [Rs.bind] at h2
    have wv : WVA K ⟨E2, W, Γ, σ, H⟩ ⟨E2, W2, Γ2, σ, H2⟩ [v, vk] [l, lk] := .cons (.inl (Vv.next S2 rfl)) (.cons (.inl (Vk.back S1.back)) .nil)
    obtain ⟨W3, R3, S3, d3, x3, _, _⟩ := Rel.escA R2 (S1.trans S2) wv ee
    cases d3 with
    | @cons _ _ dv _ hv r =>
      cases r with
      | @cons _ _ dk _ hk r =>
        cases r
        cases g3 : Γ3[i]? with
        | none => rw [g3] at h2; exact h2.elim
        | some s =>
          rw [g3] at h2
          cases s with
          | no => exact h2.elim
          | dat d => exact h2.elim
          | lck b d => exact h2.elim
          | mt b o =>
            dsimp only at h2
            cases ef : f o dk dv with
            | none => rw [ef] at h2; exact h2.elim
            | some o' =>
              rw [ef] at h2
              obtain ⟨a', z1, z2, z3, z4⟩ := R3.mt i b o g3
              have za : σ[i]? = some (some (V.ref a')) := z1
              rw [ea] at za
              cases za
              refine ⟨a, W3, o, dk, dv, o', rfl, z2, R3.le, z3, hk, hv, ef, fun W' H' m => ?_⟩
              obtain ⟨R4, S4⟩ := R3.mst g3 z1 m
              exact h2 W' σ H' R4 (S3.trans S4)
/-- unlocked behind a loop -/
theorem unloop {L : List Nat} {cE : Cf} (R1 : Rel K c1) (hL : ∀ i ∈ L, ∃ b d, c1.Γ[i]? = some (.mt b d)) (RE : Rel K cE) (SE : Stp ⟨c1.E, c1.W, lockA L c1.Γ, c1.σ, c1.H⟩ cE) :
    Rel K ⟨cE.E, cE.W, unlockA L cE.Γ, cE.σ, cE.H⟩ ∧ Stp c1 ⟨cE.E, cE.W, unlockA L cE.Γ, cE.σ, cE.H⟩ ∧ ∀ a, Cf.ad ⟨cE.E, cE.W, unlockA L cE.Γ, cE.σ, cE.H⟩ a → cE.ad a := by
  have ms : ∀ {j : Nat} {b : Bool} {d : D}, ((unlockA L cE.Γ)[j]? = some (.mt b d) ∨ (unlockA L cE.Γ)[j]? = some (.lck b d)) → (cE.Γ[j]? = some (.mt b d) ∨ cE.Γ[j]? = some (.lck b d)) := fun {j b d} h => by
    rcases h with z | z
    · rcases unlockA_get z with ⟨y, _⟩ | ⟨b', d', _, y, e⟩
      · exact .inl y
      · cases e; exact .inr y
    · rcases unlockA_get z with ⟨y, _⟩ | ⟨b', d', _, y, e⟩
      · exact .inr y
      · cases e
  have muL : ∀ {a}, Cf.mu ⟨c1.E, c1.W, lockA L c1.Γ, c1.σ, c1.H⟩ a → c1.mu a := fun {a} h => by
    obtain ⟨j, b, d, g, e⟩ := h
    rcases lockA_get g with ⟨y, _⟩ | ⟨_, _, _, _, y⟩
    · exact ⟨j, b, d, y, e⟩
    · cases y
  have adL : ∀ {a}, Cf.ad ⟨c1.E, c1.W, lockA L c1.Γ, c1.σ, c1.H⟩ a → c1.ad a := fun {a} h => by
    obtain ⟨j, ⟨b, d, g⟩, e⟩ := h
    refine ⟨j, ?_, e⟩
    rcases g with g | g
    · rcases lockA_get g with ⟨y, _⟩ | ⟨_, _, _, _, y⟩
      · exact ⟨b, d, .inl y⟩
      · cases y
    · rcases lockA_get g with ⟨y, _⟩ | ⟨b', d', _, y, _⟩
      · exact ⟨b, d, .inr y⟩
      · exact ⟨b', d', .inl y⟩
  have lkL : ∀ {j : Nat} {b : Bool} {d : D}, cE.Γ[j]? = some (.lck b d) → cE.σ[j]? = c1.σ[j]? ∧ ((j ∈ L ∧ ∃ d, c1.Γ[j]? = some (.mt b d)) ∨ ∃ d, c1.Γ[j]? = some (.lck b d)) := fun {j b d} g => by
    obtain ⟨⟨d', z⟩, e⟩ := SE.lk j b d g
    refine ⟨e, ?_⟩
    rcases lockA_get z with ⟨w, _⟩ | ⟨_, _, m, w, e⟩
    · exact .inr ⟨_, w⟩
    · cases e; exact .inl ⟨m, _, w⟩
  refine ⟨⟨?_, RE.le, RE.ent, fun j d g => ?_, fun j b d g => RE.am j b d (ms g), fun i j a h1 h2 e1 e2 => ?_⟩, ⟨SE.ent, SE.w, fun a o h n => SE.fr a o h fun z => n (muL z), SE.th, fun a h => ?_, fun a h => ?_, fun a h => ?_, fun j b d g => ?_, fun j d g => ?_⟩, fun a h => ?_⟩
  · show (unlockA L cE.Γ).length = cE.σ.length
    rw [unlockA_len]; exact RE.len
  · rcases unlockA_get g with ⟨y, _⟩ | ⟨_, _, _, _, y⟩
    · exact RE.dat j d y
    · cases y
  · obtain ⟨b1, d1, h1⟩ := h1
    obtain ⟨b2, d2, h2⟩ := h2
    exact RE.dist i j a ⟨b1, d1, ms h1⟩ ⟨b2, d2, ms h2⟩ e1 e2
  · rcases SE.nw a h with z | z | z
    · exact .inl z
    · exact .inr (.inl z)
    · exact .inr (.inr (muL z))
  · obtain ⟨j, b, d, g, e⟩ := h
    rcases unlockA_get g with ⟨z, _⟩ | ⟨b', d', m, z, _⟩
    · rcases SE.mu a ⟨j, b, d, z, e⟩ with y | y
      · exact .inl (muL y)
      · exact .inr y
    · obtain ⟨b2, d2, w⟩ := hL j m
      exact .inl ⟨j, b2, d2, w, (lkL z).1.symm.trans e⟩
  · obtain ⟨j, ⟨b, d, g⟩, e⟩ := h
    rcases SE.ad a ⟨j, ⟨b, d, ms g⟩, e⟩ with y | y
    · exact .inl (adL y)
    · exact .inr y
  · rcases unlockA_get g with ⟨y, w⟩ | ⟨_, _, _, _, y⟩
    · obtain ⟨e, x⟩ := lkL y
      rcases x with x | x
      · exact absurd rfl (w x.1 b d)
      · exact ⟨x, e⟩
    · cases y
  · rcases unlockA_get g with ⟨y, w⟩ | ⟨b', d', m, y, e⟩
    · obtain ⟨⟨d2, x⟩, es⟩ := SE.io j d y
      rcases lockA_get x with ⟨x, _⟩ | ⟨_, _, _, _, x⟩
      · exact ⟨⟨d2, x⟩, es⟩
      · cases x
    · cases e
      obtain ⟨es, x⟩ := lkL y
      rcases x with ⟨_, x⟩ | ⟨d2, x⟩
      · exact ⟨x, es⟩
      · obtain ⟨b3, d3, w⟩ := hL j m
        rw [x] at w; cases w
  · obtain ⟨j, ⟨b, d, g⟩, e⟩ := h
    exact ⟨j, ⟨b, d, ms g⟩, e⟩
theorem ORelE.of {c c' : Cf} {v : V} {o : Ou} (h : ORelE K c v o) (e : c'.E = c.E) (w : c'.W = c.W) (hh : c'.H = c.H) (ad : ∀ a, c'.ad a → c.ad a) : ORelE K c' v o := by
  cases h with
  | dat q => exact .dat (by rw [w]; exact q)
  | new h1 h2 h3 h4 => exact .new (by rw [e]; exact h1) (by rw [w]; exact h2) (fun z => h3 (ad _ z)) (by rw [w, hh]; exact h4)
theorem denS_for {g : List D → Option (List D)} {as : Ta} {tg : Tg} {b : Ss} (h : denS K Wx n (.for g as tg b) E0 σ H) : tFor (denI K Wx g as) (denG K tg) (denSs K Wx n b) E0 σ H := by
  obtain ⟨E, W, Γ, R, h⟩ := h
  simp only [ex] at h
  refine ⟨E, W, Γ, R, h.bindR.imp fun ls c1 R1 S1 es h1 => ?_⟩
  obtain ⟨E1, W1, Γ1, σ1, H1⟩ := c1
  cases es
  obtain rfl : E1 = E := S1.ent
  dsimp only at h1
  cases er : resA Γ1 ls with
  | none => rw [er] at h1; exact h1.elim
  | some ds =>
    rw [er] at h1
    dsimp only at h1
    cases eg : g ds with
    | none => rw [eg] at h1; exact h1.elim
    | some xs =>
      rw [eg] at h1
      dsimp only at h1
      refine ⟨ds, xs, rfl, eg, fun J W2 H2 p2 IT => ?_⟩
      obtain ⟨R2, S2⟩ := Rel.pst R1 p2
      dsimp only at R2 S2
      generalize hLk : locks Γ1 ls = L at h1
      have hL : ∀ i ∈ L, ∃ b d, Γ1[i]? = some (.mt b d) := fun i hi => by rw [← hLk] at hi; exact locks_mt hi
      have RL : Rel K ⟨E1, W2, lockA L Γ1, σ, H2⟩ := R2.lockA (L := L)
      have muLe : ∀ a, Cf.mu ⟨E1, W2, lockA L Γ1, σ, H2⟩ a → muL ⟨E1, W1, Γ1, σ, H1⟩ ls a := fun a ⟨j, b, d, gg, e⟩ => ⟨j, b, d, by rw [hLk]; exact gg, e⟩
      -- the end of the loop by some flow
      have fin : ∀ {W5 H5 : Hp} {Γ5 : List Slot} {σ5 : St} {f : Fl}, forLoop (exs n b) tg xs (lockA L Γ1) = .ok f Γ5 → Rel K ⟨E1, W5, Γ5, σ5, H5⟩ → Stp ⟨E1, W2, lockA L Γ1, σ, H2⟩ ⟨E1, W5, Γ5, σ5, H5⟩ →
          FlP K ⟨E1, W5, unlockA L Γ5, σ5, H5⟩ E0 f ∧ ∀ a, Cf.ad ⟨E1, W5, unlockA L Γ5, σ5, H5⟩ a → Cf.ad ⟨E1, W5, Γ5, σ5, H5⟩ a := fun {W5 H5 Γ5 σ5 f} e R5 S5 => by
        rw [e] at h1
        obtain ⟨R6, S6, a6⟩ := unloop (c1 := ⟨E1, W2, Γ1, σ, H2⟩) R2 hL R5 S5
        exact ⟨h1 W5 σ5 H5 R6 (S1.trans (S2.trans S6)), a6⟩
      refine ⟨fun i m σ' H' => m = xs.length - i ∧ i ≤ xs.length ∧ ∃ W' Γ', Rel K ⟨E1, W', Γ', σ', H'⟩ ∧ Stp ⟨E1, W2, lockA L Γ1, σ, H2⟩ ⟨E1, W', Γ', σ', H'⟩ ∧ forLoop (exs n b) tg xs (lockA L Γ1) = forLoop (exs n b) tg (xs.drop i) Γ',
        ⟨xs.length, by simp, Nat.zero_le _, W2, lockA L Γ1, RL, Stp.refl _, by rw [List.drop_zero]⟩, ?_⟩
      rintro i m σi Hi ⟨rfl, hi, Wi, Γi, Ri, Si, hlp⟩
      have kp : ∀ a o, H2 a = some o → ¬ muL ⟨E1, W1, Γ1, σ, H1⟩ ls a → Hi a = some o := fun a o e nn => Si.fr a o e fun z => nn (muLe a z)
      by_cases hlt : i < xs.length
      rotate_left
      · have ei : i = xs.length := by omega
        subst ei
        rw [List.drop_length] at hlp
        exact .inl ⟨IT.stop Hi kp, (fin hlp Ri Si).1⟩
      · have hx : xs[i]? = some xs[i] := List.getElem?_eq_getElem hlt
        have hdr : xs.drop i = xs[i] :: xs.drop (i + 1) := List.drop_eq_getElem_cons hlt
        rw [hdr] at hlp
        simp only [forLoop] at hlp
        have h1' := h1
        rw [hlp] at h1'
        refine .inr ⟨IT.go i Hi hlt kp, fun σ' H' => ∃ W' Γ', Rel K ⟨E1, W', Γ', σ', H'⟩ ∧ Stp ⟨E1, W2, lockA L Γ1, σ, H2⟩ ⟨E1, W', Γ', σ', H'⟩ ∧ forLoop (exs n b) tg xs (lockA L Γ1) = forLoop (exs n b) tg (xs.drop (i + 1)) Γ',
          fun σ' H' z => ⟨xs.length - (i + 1), by omega, rfl, hlt, z⟩, fun x H' y => ?_⟩
        obtain ⟨W3, p3, dx⟩ := IT.yl i Hi x H' xs[i] Wi hx kp y Si.w Ri.le
        obtain ⟨R3, S3⟩ := Ri.pst p3
        dsimp only at R3 S3
        cases eb : bnd tg xs[i] Γi with
        | none => rw [eb] at h1'; exact h1'.elim
        | some Γ4 =>
          rw [eb] at h1' hlp
          refine ⟨E1, W3, Γi, xs[i], Γ4, R3, dx, eb, fun σ4 R4 S4 s4 => ⟨E1, W3, Γ4, R4, ?_⟩⟩
          have SL4 : Stp ⟨E1, W2, lockA L Γ1, σ, H2⟩ ⟨E1, W3, Γ4, σ4, H'⟩ := Si.trans (S3.trans S4)
          dsimp only at h1' hlp
          cases ebd : exs n b Γ4 with
          | stuck => rw [ebd] at h1'; exact h1'.elim
          | exn x Γ5 =>
            rw [ebd] at h1'
            intro cls d W5 σ5 H5 R5 S5 X
            obtain ⟨R6, S6, _⟩ := unloop (c1 := ⟨E1, W2, Γ1, σ, H2⟩) R2 hL R5 (SL4.trans S5)
            exact h1' cls d W5 σ5 H5 R6 (S1.trans (S2.trans S6)) X
          | ok f Γ5 =>
            rw [ebd] at h1' hlp
            simp only [Rs.bind] at h1' hlp
            intro W5 σ5 H5 R5 S5
            have S5' := SL4.trans S5
            cases f with
            | nx => exact ⟨W5, Γ5, R5, S5', hlp⟩
            | ct => exact ⟨W5, Γ5, R5, S5', hlp⟩
            | bk => exact (fin hlp R5 S5').1
            | rt o =>
              intro v O
              obtain ⟨q1, q2⟩ := fin hlp R5 S5'
              exact q1 v (O.of rfl rfl rfl q2)
theorem denS_whl {t : Tm} {b : Ss} (h : denS K Wx n (.whl t b) E0 σ H) : tWhile (denT K Wx t) (denSs K Wx n b) E0 σ H := by
  obtain ⟨E, W, Γ, R, h⟩ := h
  simp only [ex] at h
  refine ⟨fun m σ' H' => ∃ W' Γ', Rel K ⟨E, W', Γ', σ', H'⟩ ∧ Stp ⟨E, W, Γ, σ, H⟩ ⟨E, W', Γ', σ', H'⟩ ∧ whlLoop (ev t) (exs n b) n Γ = whlLoop (ev t) (exs n b) m Γ', ⟨n, W, Γ, R, Stp.refl _, rfl⟩, ?_⟩
  rintro m σi Hi ⟨Wi, Γi, Ri, Si, hlp⟩
  have h1 := h
  rw [hlp] at h1
  cases m with
  | zero => exact h1.elim
  | succ m =>
    simp only [whlLoop] at h1 hlp
    refine ⟨E, Wi, Γi, Ri, ?_⟩
    cases ec : ev t Γi with
    | stuck => rw [ec] at h1; exact h1.elim
    | exn x Γ2 =>
      rw [ec] at h1
      intro cls d W2 H2 R2 S2 X
      exact h1 cls d W2 σi H2 R2 (Si.trans S2) X
    | ok l Γ2 =>
      rw [ec] at h1 hlp
      simp only [Rs.bind] at h1 hlp
      intro W2 H2 R2 S2
      dsimp only at R2 S2
      cases l with
      | ref _ => exact h1.elim
      | new _ => exact h1.elim
      | dat dl =>
        cases dl with
        | bl bb =>
          cases bb with
          | false =>
            refine ⟨false, rfl, ?_⟩
            dsimp only
            rw [if_neg Bool.false_ne_true]
            exact h1 W2 σi H2 R2 (Si.trans S2)
          | true =>
            refine ⟨true, rfl, ?_⟩
            dsimp only
            rw [if_pos rfl]
            simp only at h1 hlp
            refine ⟨fun σ' H' => ∃ W' Γ', Rel K ⟨E, W', Γ', σ', H'⟩ ∧ Stp ⟨E, W, Γ, σ, H⟩ ⟨E, W', Γ', σ', H'⟩ ∧ whlLoop (ev t) (exs n b) n Γ = whlLoop (ev t) (exs n b) m Γ', fun σ' H' z => ⟨m, Nat.lt_succ_self m, z⟩, E, W2, Γ2, R2, ?_⟩
            have S02 := Si.trans S2
            cases ebd : exs n b Γ2 with
            | stuck => rw [ebd] at h1; exact h1.elim
            | exn x Γ5 =>
              rw [ebd] at h1
              intro cls d W5 σ5 H5 R5 S5 X
              exact h1 cls d W5 σ5 H5 R5 (S02.trans S5) X
            | ok f Γ5 =>
              rw [ebd] at h1 hlp
              simp only [Rs.bind] at h1 hlp
              intro W5 σ5 H5 R5 S5
              have S05 := S02.trans S5
              cases f with
              | nx => exact ⟨W5, Γ5, R5, S05, hlp⟩
              | ct => exact ⟨W5, Γ5, R5, S05, hlp⟩
              | bk => exact h1 W5 σ5 H5 R5 S05
              | rt o => exact h1 W5 σ5 H5 R5 S05
        | _ => exact h1.elim
theorem denS_brk (h : denS K Wx n .brk E0 σ H) : tBreak E0 σ H := by
  obtain ⟨E, W, Γ, R, h⟩ := h
  exact h W σ H R (Stp.refl _)
theorem denS_cnt (h : denS K Wx n .cnt E0 σ H) : tCont E0 σ H := by
  obtain ⟨E, W, Γ, R, h⟩ := h
  exact h W σ H R (Stp.refl _)
theorem denS_pas (h : denS K Wx n .pas E0 σ H) : tNext E0 σ H := by
  obtain ⟨E, W, Γ, R, h⟩ := h
  exact h W σ H R (Stp.refl _)
theorem denS_nev (h : denS K Wx n .nev E0 σ H) : tNever E0 σ H := by
  obtain ⟨E, W, Γ, R, h⟩ := h
  exact h
/-- a value that is no slot's, stored; another such value stays -/
theorem store_vrel {i : Nat} {l m : Vl} {v w : V} {Γ' : List Slot} (R : Rel K c) (R1 : Rel K c1) (S1 : Stp c c1) (V1 : VRel K c c1 v l) (nl : ∀ q, l ≠ .ref q) (e : store i l c1.Γ = .ok () Γ') :
    ∃ W', Rel K ⟨c1.E, W', Γ', c1.σ.set i (some v), c1.H⟩ ∧ Stp c ⟨c1.E, W', Γ', c1.σ.set i (some v), c1.H⟩ ∧
      (VRel K c c1 w m → (∀ q, m ≠ .ref q) → (∀ d d', l = .new d → (v, Vl.new d') ≠ (w, m)) → VRel K c ⟨c1.E, W', Γ', c1.σ.set i (some v), c1.H⟩ w m) := by
  unfold store at e
  split at e
  rotate_left
  · cases e
  rename_i hi
  cases V1 with
  | @ref v q _ => exact absurd rfl (nl q)
  | @dat v d hd =>
    simp only [esc, Rs.bind] at e
    cases e
    obtain ⟨R2, T2⟩ := R1.setDat hd hi
    refine ⟨c1.W, R2, S1.trans T2, fun V2 nm _ => ?_⟩
    cases V2 with
    | ref _ => exact absurd rfl (nm _)
    | dat q => exact .dat q
    | new h0 hw hn ha =>
      refine .new h0 hw (fun z => ?_) ha
      rcases T2.ad _ z with y | y
      · exact hn y
      · exact ha.ne y
  | @new a d h0 hw hn ha =>
    cases e
    obtain ⟨R2, S2⟩ := R1.setNew S1 h0 (by rw [S1.ent]; exact R.ent0 h0) hw hn ha hi
    refine ⟨c1.W, R2, S2, fun V2 nm hd => ?_⟩
    cases V2 with
    | ref _ => exact absurd rfl (nm _)
    | dat q => exact .dat q
    | @new a2 d2 h02 hw2 hn2 ha2 =>
      refine .new h02 hw2 (fun z => ?_) ha2
      obtain ⟨j, ⟨b, dd, g⟩, ej⟩ := z
      by_cases q : j = i
      · subst q
        have ej' : (c1.σ.set j (some (V.ref a)))[j]? = some (some (V.ref a2)) := ej
        rw [List.getElem?_set_self (by rw [← R1.len]; exact hi)] at ej'
        cases ej'
        exact hd d d2 rfl rfl
      · have ej' : (c1.σ.set i (some (V.ref a)))[j]? = some (some (V.ref a2)) := ej
        rw [List.getElem?_set_ne (Ne.symm q)] at ej'
        rw [List.getElem?_set_ne (Ne.symm q)] at g
        exact hn2 ⟨j, ⟨b, dd, g⟩, ej'⟩
theorem storeA_cons {i : Nat} {is : List Nat} {l : Vl} {ls : List Vl} {Γ : List Slot} (nl : ∀ q, l ≠ .ref q) : storeA (i :: is) (l :: ls) Γ = (store i l Γ).bind fun _ Γ1 => storeA is ls Γ1 := by
  cases l with
  | ref q => exact absurd rfl (nl q)
  | dat d => rfl
  | new d => rfl
/-- a, b = x, y -/
theorem denS_par2 {i j : Nat} {as : Ta} (h : denS K Wx n (.par [i, j] as) E0 σ H) : tPar i j (denA K Wx as) E0 σ H := by
  obtain ⟨E, W, Γ, R, h⟩ := h
  simp only [ex] at h
  refine ⟨E, W, Γ, R, h.bindR.imp fun ls c1 R1 S1 es h1 vs Vs => ?_⟩
  obtain ⟨E1, W1, Γ1, σ1, H1⟩ := c1
  cases es
  obtain rfl : E1 = E := S1.ent
  dsimp only at h1
  cases Vs with
  | nil => exact h1.elim
  | @cons v vs l ls V1 r n1 =>
    have nr : ∀ q, l ≠ .ref q := fun q e => by subst e; exact h1.elim
    rw [storeA_cons nr] at h1
    cases es1 : store i l Γ1 with
    | stuck => rw [es1] at h1; exact h1.elim
    | exn x Γ2 => exact (store_ne es1).elim
    | ok u Γ2 =>
      rw [es1] at h1
      simp only [Rs.bind] at h1
      cases r with
      | nil => exact h1.elim
      | @cons w vs2 m ls2 V2 r2 n2 =>
        have nr2 : ∀ q, m ≠ .ref q := fun q e => by subst e; exact h1.elim
        rw [storeA_cons nr2] at h1
        obtain ⟨W2, R2, S2, k2⟩ := store_vrel (w := w) (m := m) R R1 S1 V1 nr es1
        have V2' := k2 V2 nr2 fun d d' e z => n1 d d' e (by rw [z]; exact List.mem_cons_self)
        cases es2 : store j m Γ2 with
        | stuck => rw [es2] at h1; exact h1.elim
        | exn x Γ3 => exact (store_ne es2).elim
        | ok u Γ3 =>
          rw [es2] at h1
          simp only [Rs.bind] at h1
          cases r2 with
          | cons _ _ _ => exact h1.elim
          | nil =>
            obtain ⟨W3, R3, S3⟩ := store_ok R R2 S2 V2' es2
            exact ⟨v, w, rfl, h1 W3 _ H1 R3 S3⟩
end
end MP

end
-- MP9
section
/-! MP9: a def keeps its promise. -/
namespace MP
open PySem L2
section
variable {K : PySem.W.Frag} {W H : Hp}
theorem initG_get : ∀ {io : List Bool} {vs : List V} {ds : List D} {i : Nat} {s : Slot}, ArgR K W H io vs ds → (initG io ds)[i]? = some s →
    (∃ v d, vs[i]? = some v ∧ s = .dat d ∧ Dr K W v d) ∨ (∃ a d, vs[i]? = some (.ref a) ∧ io[i]? = some true ∧ s = .mt false d ∧ W a = none ∧ MutAt K W H a d)
  | _, _, _, i, s, .nil, e => by simp [initG] at e
  | _, _, _, 0, s, .dat h r, e => by
    simp only [initG, List.getElem?_cons_zero] at e
    cases e
    exact .inl ⟨_, _, rfl, rfl, h⟩
  | _, _, _, i + 1, s, .dat h r, e => by
    simp only [initG, List.getElem?_cons_succ] at e
    rcases initG_get r e with ⟨v, d, h1, h2, h3⟩ | ⟨a, d, h1, h2, h3⟩
    · exact .inl ⟨v, d, by simpa using h1, h2, h3⟩
    · exact .inr ⟨a, d, by simpa using h1, by simpa using h2, h3⟩
  | _, _, _, 0, s, .io h1 h2 r, e => by
    simp only [initG, List.getElem?_cons_zero] at e
    cases e
    exact .inr ⟨_, _, rfl, rfl, rfl, h1, h2⟩
  | _, _, _, i + 1, s, .io _ _ r, e => by
    simp only [initG, List.getElem?_cons_succ] at e
    rcases initG_get r e with ⟨v, d, h1, h2, h3⟩ | ⟨a, d, h1, h2, h3⟩
    · exact .inl ⟨v, d, by simpa using h1, h2, h3⟩
    · exact .inr ⟨a, d, by simpa using h1, by simpa using h2, h3⟩
theorem initG_len : ∀ {io : List Bool} {vs : List V} {ds : List D}, ArgR K W H io vs ds → (initG io ds).length = vs.length
  | _, _, _, .nil => rfl
  | _, _, _, .dat _ r => by simp [initG, initG_len r]
  | _, _, _, .io _ _ r => by simp [initG, initG_len r]
theorem ioA_mem : ∀ {io : List Bool} {vs : List V} {i : Nat} {a : Addr}, io[i]? = some true → vs[i]? = some (.ref a) → a ∈ ioA io vs
  | [], _, i, _, e, _ => by simp at e
  | b :: io, [], i, _, _, e => by simp at e
  | b :: io, v :: vs, 0, a, e1, e2 => by
    simp at e1 e2
    subst e1 e2
    exact List.mem_cons_self
  | b :: io, v :: vs, i + 1, a, e1, e2 => by
    have q := ioA_mem (io := io) (vs := vs) (i := i) (a := a) (by simpa using e1) (by simpa using e2)
    cases b with
    | true =>
      cases v with
      | ref x => exact List.mem_cons_of_mem _ q
      | _ => exact q
    | false => cases v <;> exact q
theorem ioA_ix : ∀ {io : List Bool} {vs : List V} {a : Addr}, a ∈ ioA io vs → ∃ i : Nat, io[i]? = some true ∧ vs[i]? = some (.ref a)
  | [], _, _, h => by simp [ioA] at h
  | b :: io, [], _, h => by cases b <;> simp [ioA] at h
  | b :: io, v :: vs, a, h => by
    have tail : a ∈ ioA io vs → ∃ i : Nat, (b :: io)[i]? = some true ∧ (v :: vs)[i]? = some (.ref a) := fun q => by
      obtain ⟨i, h1, h2⟩ := ioA_ix q
      exact ⟨i + 1, by simpa using h1, by simpa using h2⟩
    cases b with
    | true =>
      cases v with
      | ref x =>
        rcases List.mem_cons.mp h with z | z
        · subst z; exact ⟨0, rfl, rfl⟩
        · exact tail z
      | _ => exact tail h
    | false => cases v <;> exact tail h
theorem ioA_inj : ∀ {io : List Bool} {vs : List V} {i j : Nat} {a : Addr}, (ioA io vs).Nodup → io[i]? = some true → io[j]? = some true → vs[i]? = some (.ref a) → vs[j]? = some (.ref a) → i = j
  | [], _, i, _, _, _, e, _, _, _ => by simp at e
  | b :: io, [], _, _, _, _, _, _, e, _ => by simp at e
  | b :: io, v :: vs, 0, 0, _, _, _, _, _, _ => rfl
  | b :: io, v :: vs, 0, j + 1, a, n, e1, e2, e3, e4 => by
    simp at e1 e3
    subst e1 e3
    have q := ioA_mem (io := io) (vs := vs) (i := j) (a := a) (by simpa using e2) (by simpa using e4)
    exact absurd q (List.nodup_cons.mp n).1
  | b :: io, v :: vs, i + 1, 0, a, n, e1, e2, e3, e4 => by
    simp at e2 e4
    subst e2 e4
    have q := ioA_mem (io := io) (vs := vs) (i := i) (a := a) (by simpa using e1) (by simpa using e3)
    exact absurd q (List.nodup_cons.mp n).1
  | b :: io, v :: vs, i + 1, j + 1, a, n, e1, e2, e3, e4 => by
    have n' : (ioA io vs).Nodup := by
      cases b with
      | true =>
        cases v with
        | ref x => exact (List.nodup_cons.mp n).2
        | _ => exact n
      | false => cases v <;> exact n
    have q := ioA_inj (io := io) (vs := vs) (i := i) (j := j) (a := a) n' (by simpa using e1) (by simpa using e2) (by simpa using e3) (by simpa using e4)
    rw [q]
/-- the in-out parameters at the end -/
theorem ioOut_ok {W' H' : Hp} : ∀ {io : List Bool} {vs : List V} {Γ : List Slot} {ios : List D}, io.length = vs.length → (∀ i : Nat, io[i]? = some true → ∃ a, vs[i]? = some (V.ref a)) →
    (∀ (i : Nat) (d : D) (a : Addr), io[i]? = some true → Γ[i]? = some (.mt false d) → vs[i]? = some (.ref a) → W' a = none ∧ MutAt K W' H' a d) → ioOut io Γ = some ios → IoR K W' H' (ioA io vs) ios
  | [], _, _, _, _, _, _, e => by
    simp only [ioOut] at e
    cases e
    exact .nil
  | b :: io, [], _, _, hl, _, _, _ => by simp at hl
  | false :: io, v :: vs, [], ios, _, _, _, e => by simp [ioOut] at e
  | false :: io, v :: vs, s :: Γ, ios, hl, hv, h, e => by
    have e' : ioOut io Γ = some ios := by
      unfold ioOut at e
      exact e
    have q := ioOut_ok (io := io) (vs := vs) (Γ := Γ) (by simpa using hl) (fun i hi => by simpa using hv (i + 1) (by simpa using hi)) (fun i d a h1 h2 h3 => h (i + 1) d a (by simpa using h1) (by simpa using h2) (by simpa using h3)) e'
    cases v <;> exact q
  | true :: io, v :: vs, [], ios, _, _, _, e => by simp [ioOut] at e
  | true :: io, v :: vs, s :: Γ, ios, hl, hv, h, e => by
    cases s with
    | mt b d =>
      cases b with
      | false =>
        unfold ioOut at e
        cases q : ioOut io Γ with
        | none => rw [q] at e; cases e
        | some ios' =>
          rw [q] at e
          cases e
          obtain ⟨a, ha⟩ := hv 0 rfl
          simp at ha
          subst ha
          obtain ⟨z1, z2⟩ := h 0 d a rfl rfl rfl
          exact .cons z1 z2 (ioOut_ok (by simpa using hl) (fun i hi => by simpa using hv (i + 1) (by simpa using hi)) (fun i d a h1 h2 h3 => h (i + 1) d a (by simpa using h1) (by simpa using h2) (by simpa using h3)) q)
      | true => simp [ioOut] at e
    | _ => simp [ioOut] at e
theorem ioOut_io : ∀ {io : List Bool} {Γ : List Slot} {ios : List D} {i : Nat}, ioOut io Γ = some ios → io[i]? = some true → ∃ d, Γ[i]? = some (.mt false d)
  | [], _, _, i, _, e => by simp at e
  | false :: io, [], ios, i, e, _ => by simp [ioOut] at e
  | true :: io, [], ios, i, e, _ => by simp [ioOut] at e
  | false :: io, s :: Γ, ios, 0, e, h => by simp at h
  | false :: io, s :: Γ, ios, i + 1, e, h => by
    have e' : ioOut io Γ = some ios := by unfold ioOut at e; exact e
    obtain ⟨d, z⟩ := ioOut_io e' (i := i) (by simpa using h)
    exact ⟨d, by simpa using z⟩
  | true :: io, s :: Γ, ios, i, e, h => by
    cases s with
    | mt b d =>
      cases b with
      | false =>
        unfold ioOut at e
        cases q : ioOut io Γ with
        | none => rw [q] at e; cases e
        | some ios' =>
          cases i with
          | zero => exact ⟨d, rfl⟩
          | succ i =>
            obtain ⟨d', z⟩ := ioOut_io q (i := i) (by simpa using h)
            exact ⟨d', by simpa using z⟩
      | true => simp [ioOut] at e
    | _ => simp [ioOut] at e
theorem ArgR.ioV : ∀ {io : List Bool} {vs : List V} {ds : List D} {i : Nat}, ArgR K W H io vs ds → io[i]? = some true → ∃ a, vs[i]? = some (.ref a)
  | _, _, _, i, .nil, e => by simp at e
  | _, _, _, 0, .dat _ _, e => by simp at e
  | _, _, _, 0, .io _ _ _, _ => ⟨_, rfl⟩
  | _, _, _, i + 1, .dat _ r, e => by
    obtain ⟨a, z⟩ := ArgR.ioV (i := i) r (by simpa using e)
    exact ⟨a, by simpa using z⟩
  | _, _, _, i + 1, .io _ _ r, e => by
    obtain ⟨a, z⟩ := ArgR.ioV (i := i) r (by simpa using e)
    exact ⟨a, by simpa using z⟩
/-- the slots at a def's entry -/
theorem rel_start {N : List Str} {io : List Bool} {vs : List V} {ds : List D} (l : Le W H) (A : ArgR K W H io vs ds) (nd : (ioA io vs).Nodup) (hN : vs.length ≤ N.length) :
    Rel K ⟨H, W, initG io ds ++ List.replicate (N.length - vs.length) .no, start N vs, H⟩ := by
  have hl := initG_len A
  have sl : ∀ {i : Nat} {s : Slot}, (initG io ds ++ List.replicate (N.length - vs.length) Slot.no)[i]? = some s → s = .no ∨ (initG io ds)[i]? = some s := fun {i s} h => by
    by_cases q : i < (initG io ds).length
    · rw [List.getElem?_append_left q] at h
      exact .inr h
    · rw [List.getElem?_append_right (by omega), List.getElem?_replicate] at h
      split at h
      · cases h; exact .inl rfl
      · cases h
  have sv : ∀ {i : Nat} {v : V}, vs[i]? = some v → (start N vs)[i]? = some (some v) := fun {i v} h => by
    unfold L2.start
    have hi : i < vs.length := (List.getElem?_eq_some_iff.mp h).1
    rw [List.getElem?_append_left (by simpa using hi), List.getElem?_map, h]
    rfl
  have mt : ∀ {i : Nat} {a : Addr}, IsM (initG io ds ++ List.replicate (N.length - vs.length) Slot.no) i → (start N vs)[i]? = some (some (V.ref a)) → io[i]? = some true ∧ vs[i]? = some (.ref a) := fun {i a} h e => by
    obtain ⟨b, d, h⟩ := h
    have h' : ∃ s, (initG io ds)[i]? = some s ∧ (s = .mt b d ∨ s = .lck b d) := by
      rcases h with h | h
      · rcases sl h with z | z
        · cases z
        · exact ⟨_, z, .inl rfl⟩
      · rcases sl h with z | z
        · cases z
        · exact ⟨_, z, .inr rfl⟩
    obtain ⟨s, h1, h2⟩ := h'
    rcases initG_get A h1 with ⟨v, d', z1, z2, _⟩ | ⟨a', d', z1, z2, z3, _⟩
    · subst z2
      rcases h2 with h2 | h2 <;> cases h2
    · rw [sv z1] at e
      cases e
      exact ⟨z2, z1⟩
  refine ⟨?_, l, fun a h => h, fun i d g => ?_, fun i b d g => ?_, fun i j a h1 h2 e1 e2 => ?_⟩
  · show (initG io ds ++ List.replicate (N.length - vs.length) Slot.no).length = (start N vs).length
    unfold L2.start
    simp [hl]
  · rcases sl g with z | z
    · cases z
    · rcases initG_get A z with ⟨v, d', z1, z2, z3⟩ | ⟨a', d', _, _, z3, _⟩
      · cases z2
        exact ⟨v, sv z1, z3⟩
      · cases z3
  · rcases g with g | g
    · rcases sl g with z | z
      · cases z
      · rcases initG_get A z with ⟨v, d', _, z2, _⟩ | ⟨a', d', z1, z2, z3, z4, z5⟩
        · cases z2
        · cases z3
          exact ⟨a', sv z1, z4, z5, nofun⟩
    · rcases sl g with z | z
      · cases z
      · rcases initG_get A z with ⟨v, d', _, z2, _⟩ | ⟨a', d', z1, z2, z3, z4, z5⟩
        · cases z2
        · cases z3
  · obtain ⟨p1, q1⟩ := mt h1 e1
    obtain ⟨p2, q2⟩ := mt h2 e2
    exact ioA_inj nd p1 p2 q1 q2
end
/-- what a context must be for the compiled code -/
structure Cok (P : Program) (w : World) (K : PySem.W.Frag) (mg : Str → Option Value) (base : Heap) (k : Nat) (N : List Str) (sc : Scope) (X : Cx) (Wx : WX) : Prop where
  p : X.prog = P
  w : X.w = w
  kk : X.K = K
  m : X.mg = mg
  b : X.base = base
  n : X.N = N
  nd : N.Nodup
  sc : X.env.scope = sc
  calm : X.calm = true
  room : Room k X.A
  own : PassesOwn (model X.prog X.w) X.A X.env X.xe
  tk : Takes X Wx
/-- the reading of a def's compiled body at its entry -/
theorem spF_start {K : PySem.W.Frag} {N ps : List Str} {n : Nat} {io : List Bool} {sm : Ss} {vs : List V} {H : Hp} {Q : VK} {E : XK} (hio : io.length = ps.length) (hpl : ps.length ≤ N.length) (h : spF K ⟨io, runF io (N.length - ps.length) n sm⟩ vs H Q E) :
    denSs K (fun cls d _ H => E cls d H) n sm { nx := fun _ H' => Q .non H', rt := Q } (start N vs) H := by
  obtain ⟨W, ds, l, a, nd, h⟩ := h
  have al := a.length
  have hvl : vs.length = ps.length := by rw [al.1]; exact hio
  have R := rel_start (N := N) l a nd (by omega)
  refine ⟨H, W, _, R, ?_⟩
  have hds : ds.length = io.length := al.2
  simp only [runF, if_pos hds] at h
  rw [show N.length - ps.length = N.length - vs.length by omega] at h
  -- what a changeable slot at the entry is
  have muA : ∀ b, Cf.mu ⟨H, W, initG io ds ++ List.replicate (N.length - vs.length) .no, start N vs, H⟩ b → b ∈ ioA io vs := fun b hm => by
    obtain ⟨i, bb, d, g, e⟩ := hm
    obtain ⟨b', e1, _, _, _⟩ := R.mt i bb d g
    have gi : (initG io ds)[i]? = some (.mt bb d) := by
      by_cases q : i < (initG io ds).length
      · rwa [List.getElem?_append_left q] at g
      · rw [List.getElem?_append_right (by omega), List.getElem?_replicate] at g
        split at g <;> cases g
    rcases initG_get a gi with ⟨v, d', _, z2, _⟩ | ⟨a', d', z1, z2, z3, _⟩
    · cases z2
    · have sv : (start N vs)[i]? = some (some (V.ref a')) := by
        unfold L2.start
        have hi : i < vs.length := (List.getElem?_eq_some_iff.mp z1).1
        rw [List.getElem?_append_left (by simpa using hi), List.getElem?_map, z1]
        rfl
      have e' : (start N vs)[i]? = some (some (V.ref b)) := e
      rw [sv] at e'
      cases e'
      exact ioA_mem z2 z1
  -- the end of the body
  have fin : ∀ {W' H' : Hp} {Γ' : List Slot} {σ' : St} {ios : List D}, ioOut io Γ' = some ios → Rel K ⟨H, W', Γ', σ', H'⟩ → Stp ⟨H, W, initG io ds ++ List.replicate (N.length - vs.length) .no, start N vs, H⟩ ⟨H, W', Γ', σ', H'⟩ →
      FSt W H (ioA io vs) W' H' ∧ IoR K W' H' (ioA io vs) ios := fun {W' H' Γ' σ' ios} e R' S' => by
    have at_ : ∀ (i : Nat) (d : D) (b : Addr), io[i]? = some true → Γ'[i]? = some (.mt false d) → vs[i]? = some (.ref b) → W' b = none ∧ MutAt K W' H' b d := fun i d b h1 h2 h3 => by
      obtain ⟨_, es⟩ := S'.io i d h2
      obtain ⟨b', e1, e2, e3, _⟩ := R'.mt i false d h2
      have sv : (start N vs)[i]? = some (some (V.ref b)) := by
        unfold L2.start
        have hi : i < vs.length := (List.getElem?_eq_some_iff.mp h3).1
        rw [List.getElem?_append_left (by simpa using hi), List.getElem?_map, h3]
        rfl
      have e1' : σ'[i]? = some (some (V.ref b')) := e1
      rw [show σ'[i]? = (start N vs)[i]? from es, sv] at e1'
      cases e1'
      exact ⟨e2, e3⟩
    refine ⟨⟨S'.w, R'.le, fun b o h1 h2 => S'.fr b o h1 fun z => h2 (muA b z), S'.th, fun b hb => ?_⟩, ioOut_ok al.1.symm (fun i hi => a.ioV hi) at_ e⟩
    rcases S'.nw b hb with z | z | z
    · exact .inl z
    · exact .inr z
    · obtain ⟨i, h1, h2⟩ := ioA_ix (muA b z)
      obtain ⟨d, h3⟩ := ioOut_io e h1
      exact absurd (at_ i d b h1 h3 h2).1 hb
  cases ee : exs n sm (initG io ds ++ List.replicate (N.length - vs.length) .no) with
  | stuck => rw [ee] at h; exact h.elim
  | exn y Γ' =>
    rw [ee] at h
    dsimp only at h
    cases eo : ioOut io Γ' with
    | none => rw [eo] at h; exact h.elim
    | some ios =>
      rw [eo] at h
      intro cls d W' σ' H' R' S' X
      obtain ⟨f1, f2⟩ := fin eo R' S'
      exact h cls d W' H' f1 f2 X
  | ok f Γ' =>
    rw [ee] at h
    dsimp only at h
    cases eo : ioOut io Γ' with
    | none => rw [eo] at h; exact h.elim
    | some ios =>
      rw [eo] at h
      dsimp only at h
      intro W' σ' H' R' S'
      obtain ⟨f1, f2⟩ := fin eo R' S'
      cases f with
      | nx => exact h .non W' H' f1 f2 (.dat .non)
      | rt o =>
        intro v O
        refine h v W' H' f1 f2 ?_
        cases O with
        | dat q => exact .dat q
        | new h1 h2 h3 h4 => exact .new h1 h2 h4
      | bk => exact h.elim
      | ct => exact h.elim
end MP

end
-- MPA
section
/-! MPA: from the text to the small language. -/
namespace MP
open PySem L2
/-- the scope that code stands in, and which names it may store -/
structure Sv where
  sc : Scope
  asg : Str → Bool
structure Ct where
  N : List Str
  fns : List (Str × Fn)
  con : List (Str × D)
  cmp : CmpOp → List D → Option Ou
  spec : Scope → Expr → Option ((Ta → Tm) × List Expr)
  isp : Scope → Expr → Expr → Option ((List D → Option (List D)) × List Expr)
  msp : Scope → Expr → Option (Str × (D → Bool) × (D → List D → Option (D × Ou)) × List Expr)
  sst : D → D → D → Option D
def ixOf (N : List Str) (x : Str) : Option Nat := match N with
  | [] => none
  | y :: r => if x = y then some 0 else (ixOf r x).map (· + 1)
theorem ixOf_get : ∀ {N : List Str} {x : Str} {i : Nat}, ixOf N x = some i → N[i]? = some x
  | [], _, _, h => by simp [ixOf] at h
  | y :: r, x, i, h => by
    unfold ixOf at h
    split at h
    · rename_i e
      cases h
      simp [e]
    · cases q : ixOf r x with
      | none => rw [q] at h; cases h
      | some j =>
        rw [q] at h
        cases h
        simpa using ixOf_get q
def visB (sc : Scope) (x : Str) : Bool := match sc.names.lookup x with
  | some .local => true
  | some .cell => true
  | some .free => true
  | _ => false
theorem visB_ok {sc : Scope} {x : Str} (h : visB sc x = true) : Vis sc x := by
  unfold visB at h
  unfold Vis
  cases q : sc.names.lookup x with
  | none => rw [q] at h; cases h
  | some k =>
    rw [q] at h
    cases k with
    | «local» => exact .inl rfl
    | cell => exact .inr (.inl rfl)
    | free => exact .inr (.inr rfl)
    | _ => cases h
def locB (sc : Scope) (x : Str) : Bool := match sc.names.lookup x with
  | some .local => true
  | some .cell => true
  | _ => false
theorem locB_ok {sc : Scope} {x : Str} (h : locB sc x = true) : L2.Loc sc x := by
  unfold locB at h
  unfold L2.Loc
  cases q : sc.names.lookup x with
  | none => rw [q] at h; cases h
  | some k =>
    rw [q] at h
    cases k with
    | «local» => exact .inl rfl
    | cell => exact .inr rfl
    | _ => cases h
def glB (sc : Scope) (x : Str) : Bool := match sc.names.lookup x with
  | some .globalImplicit => true
  | _ => false
theorem glB_ok {X : Cx} {x : Str} (h : glB X.env.scope x = true) : Gl X x := by
  unfold glB at h
  unfold Gl
  show X.env.scope.names.lookup x = some .globalImplicit
  cases q : X.env.scope.names.lookup x with
  | none => rw [q] at h; cases h
  | some k =>
    rw [q] at h
    cases k with
    | globalImplicit => rfl
    | _ => cases h
def nmB (x : Str) : Bool := !(x == ("__debug__" : Str)) && !(x == ("__classdict__" : Str))
theorem nmB_ok {x : Str} (h : nmB x = true) : (x == ("__debug__" : Str)) = false ∧ (x == ("__classdict__" : Str)) = false := by
  unfold nmB at h
  simp only [Bool.and_eq_true, Bool.not_eq_true'] at h
  exact h
def constD : Const → Option D
  | .none => some .non
  | .bool b => some (.bl b)
  | .int i => some (.int i)
  | .str x => some (.str x)
  | _ => none
def notStar : Expr → Bool
  | .Starred _ _ => false
  | _ => true
def notSet : Expr → Bool
  | .Set _ _ _ => false
  | _ => true
def notComp : Expr → Bool
  | .ListComp _ _ _ _ => false
  | .SetComp _ _ _ _ => false
  | .DictComp _ _ _ _ _ => false
  | _ => true
def notSlice : Expr → Bool
  | .Slice _ _ _ _ => false
  | _ => true
def cArgs (f : Expr → Option Tm) : List Expr → Option Ta
  | [] => some .nil
  | e :: es => match f e, cArgs f es with
    | some t, some r => some (.cons t r)
    | _, _ => none
def mkB : BoolOp → Tm → Tm → Tm
  | .And, a, b => .and a b
  | .Or, a, b => .or a b
def cBools (f : Expr → Option Tm) (op : BoolOp) : List Expr → Option Tm
  | [] => none
  | a :: r => match r with
    | [] => f a
    | _ :: _ => (match f a, cBools f op r with
      | some t, some u => some (mkB op t u)
      | _, _ => none)
def cTgs (f : Expr → Option Tg) : List Expr → Option Tg
  | [] => some .nil
  | e :: es => match f e, cTgs f es with
    | some t, some r => some (.cons t r)
    | _, _ => none
def cTg (N : List Str) (sv : Sv) : Nat → Expr → Option Tg
  | 0, _ => none
  | n + 1, e => match e with
    | .Name x _ => (match ixOf N x with
      | some i => if locB sv.sc x && sv.asg x then some (.nm i) else none
      | none => none)
    | .Tuple es _ _ => if es.all notStar then cTgs (cTg N sv n) es else none
    | _ => none
/-- a value's truth -/
def pTru : List D → Option Ou
  | [.non] => some (.dat (.bl false))
  | [.bl b] => some (.dat (.bl b))
  | [.int i] => some (.dat (.bl (i != 0)))
  | [.str x] => if x.length ≤ LIM then some (.dat (.bl ((x.length : Int) != 0))) else none
  | [.lst xs] => some (.dat (.bl (!xs.isEmpty)))
  | [.tup xs] => some (.dat (.bl (!xs.isEmpty)))
  | _ => none
def blkS (sv : Sv) (scope : Scope) : Sv := ⟨relS scope sv.sc, fun x => (match scope.names.lookup x with
  | some .cell => true
  | _ => false) || (match (relS scope sv.sc).names.lookup x with
  | some .local => true
  | _ => false)⟩
def ownOf (N : List Str) (scope : Scope) : List (Str × Nat) := scope.names.filterMap fun y => match y.2 with
  | .local => (ixOf N y.1).map fun i => (y.1, i)
  | .cell => (ixOf N y.1).map fun i => (y.1, i)
  | _ => none
structure LcP where
  g : List D → Option (List D)
  as : Ta
  tg : Tg
  own : List (Str × Nat)
  c : Tm
  e : Tm
def LcP.tm (p : LcP) : Tm := .lc p.g p.as p.tg (p.own.map (·.2)) p.c p.e
/-- a comprehension's parts -/
def cLc (ct : Ct) (cc : Sv → Bool → Expr → Option Tm) (sv : Sv) (elt tg iter : Expr) (ifs : List Expr) (scope : Scope) : Option LcP :=
  if notSet iter && blkC ct.N sv.sc scope (ownOf ct.N scope) then
    match ct.isp sv.sc tg iter with
    | some (g, es) => (match cArgs (cc sv false) es, cTg ct.N (blkS sv scope) 10 tg, (match ifs with
        | [] => some (Tm.con (.bl true))
        | [c] => cc (blkS sv scope) true c
        | _ => none), cc (blkS sv scope) false elt with
      | some as, some t, some c, some e => if (slots t).all (fun i => ((ownOf ct.N scope).map (·.2)).contains i) then some ⟨g, as, t, ownOf ct.N scope, c, e⟩ else none
      | _, _, _, _ => none)
    | none => none
  else none
def cc (ct : Ct) : Nat → Sv → Bool → Expr → Option Tm
  | 0, _, _, _ => none
  | n + 1, sv, true, e => match e with
    | .BoolOp op vs _ => cBools (cc ct n sv true) op vs
    | .UnaryOp .Not a _ => (cc ct n sv true a).map .not
    | .IfExp _ _ _ _ => none
    | .Compare a [o] [b] _ => (match cc ct n sv false a, cc ct n sv false b with
      | some t, some u => if behindInMarks o b then none else some (.prim (ct.cmp o) (.cons t (.cons u .nil)))
      | _, _ => none)
    | .Compare a [o, o2] [b, c] _ => (match cc ct n sv false a, cc ct n sv false b, cc ct n sv false c with
      | some t, some u, some v => if lastMarks [o, o2] [b, c] then none else some (.chn (ct.cmp o) (ct.cmp o2) t u v)
      | _, _, _ => none)
    | .Compare _ _ _ _ => none
    | .UnaryOp _ _ _ => none
    | e => (cc ct n sv false e).map fun t => .prim pTru (.cons t .nil)
  | n + 1, sv, false, e => match e with
    | .Name x _ => if nmB x then (if visB sv.sc x then (ixOf ct.N x).map .var else if glB sv.sc x then (ct.con.lookup x).map .con else none) else none
    | .Constant c _ _ => (constD c).map .con
    | .BoolOp op vs _ => cBools (cc ct n sv false) op vs
    | .UnaryOp .Not a _ => (cc ct n sv false a).map .not
    | .IfExp t a b _ => (match cc ct n sv true t, cc ct n sv false a, cc ct n sv false b with
      | some t, some u, some v => some (.ifx t u v)
      | _, _, _ => none)
    | .Compare a [o] [b] _ => (match cc ct n sv false a, cc ct n sv false b with
      | some t, some u => if behindInMarks o b then none else some (.prim (ct.cmp o) (.cons t (.cons u .nil)))
      | _, _ => none)
    | .Compare a [o, o2] [b, c] _ => (match cc ct n sv false a, cc ct n sv false b, cc ct n sv false c with
      | some t, some u, some v => if lastMarks [o, o2] [b, c] then none else some (.chn (ct.cmp o) (ct.cmp o2) t u v)
      | _, _, _ => none)
    | .ListComp elt [⟨tg, iter, ifs, 0⟩] scope _ => (cLc ct (cc ct n) sv elt tg iter ifs scope).map LcP.tm
    | .Call (.Name x p) (e :: es) [] pos => if glB sv.sc x && nmB x && (e :: es).all notStar then (match ct.fns.lookup x with
      | some f => (cArgs (cc ct n sv false) (e :: es)).map (.call f)
      | none => (match ct.spec sv.sc (.Call (.Name x p) (e :: es) [] pos) with
        | some (f, es) => (cArgs (cc ct n sv false) es).map f
        | none => none)) else none
    | e => (match ct.msp sv.sc e with
      | some (x, k, f, es) => (match ixOf ct.N x, cArgs (cc ct n sv false) es with
        | some i, some as => if visB sv.sc x && nmB x then some (.mth k f i as) else none
        | _, _ => none)
      | none => (match ct.spec sv.sc e with
        | some (f, es) => (cArgs (cc ct n sv false) es).map f
        | none => none))
def cSs (f : Stmt → Option Sm) : List Stmt → Option Ss
  | [] => some .nil
  | s :: r => match f s, cSs f r with
    | some a, some b => some (.cons a b)
    | _, _ => none
/-- name = e: whether the store stands within the comprehension -/
def swN (sc : Scope) (e : Expr) (t : Str) (pos : Pos) : Bool := match e with
  | .ListComp _ _ s p => (sc.names.lookup t == some .local) && (pos.line == p.line) && !(s.names.any fun (n, k) => n == t && (k == .local || k == .cell))
  | _ => false
def swp2 (sc : Scope) (x y : Str) (px py : Pos) (a b : Expr) : Bool := (sc.names.lookup x == some .local) && (sc.names.lookup y == some .local) && !(x == y) && (py.line == px.line) && notStar a && notStar b && !([a, b].all (foldedForSure 8)) && !([a, b].all (constantsAlone 8))
def notTupE : Expr → Bool
  | .Tuple _ _ _ => false
  | _ => true
def cS (ct : Ct) (sv : Sv) : Nat → Stmt → Option Sm
  | 0, _ => none
  | n + 1, st => match st with
    | .Assign [.Name x px] e _ => if locB sv.sc x && sv.asg x then (match ixOf ct.N x with
      | some i => (match e with
        | .ListComp elt [⟨tg, iter, ifs, 0⟩] scope _ => (cLc ct (cc ct n) sv elt tg iter ifs scope).map fun p => .set i p.tm
        | .ListComp _ _ _ _ => none
        | .SetComp _ _ _ _ => none
        | .DictComp _ _ _ _ _ => none
        | e => (cc ct n sv false e).map (.set i))
      | none => none) else none
    | .Assign [.Tuple [.Name x px, .Name y py] _ _] (.Tuple [a, b] _ _) _ => if swp2 sv.sc x y px py a b then (match ixOf ct.N x, ixOf ct.N y, cArgs (cc ct n sv false) [a, b] with
      | some i, some j, some as => some (.par [i, j] as)
      | _, _, _ => none) else none
    | .Assign [.Tuple es kt pt] e _ => if notComp e && notTupE e then (match cTg ct.N sv 10 (.Tuple es kt pt), cc ct n sv false e with
      | some t, some u => some (.unp t u)
      | _, _ => none) else none
    | .Expr (.Constant (.str _) _ _) _ => some .pas
    | .Expr e _ => if notComp e then (cc ct n sv false e).map .drop else none
    | .Return (some e) _ => (cc ct n sv false e).map .ret
    | .Return none _ => some (.ret (.con .non))
    | .If c a b _ => (match cc ct n sv true c, cSs (cS ct sv n) a, cSs (cS ct sv n) b with
      | some c, some a, some b => some (.ite c a b)
      | _, _, _ => none)
    | .For tg iter body [] _ => if notSet iter then (match ct.isp sv.sc tg iter, cTg ct.N sv 10 tg, cSs (cS ct sv n) body with
      | some (g, es), some t, some b => (cArgs (cc ct n sv false) es).map fun as => .for g as t b
      | _, _, _ => none) else none
    | .While c body [] _ => (match cc ct n sv true c, cSs (cS ct sv n) body with
      | some c, some b => some (.whl c b)
      | _, _ => none)
    | .Assign [.Subscript (.Name x p1) k p2] e _ => if notComp e && notSlice k && visB sv.sc x && nmB x then (match ixOf ct.N x, cc ct n sv false k, cc ct n sv false e with
      | some i, some k, some t => some (.sub ct.sst i k t)
      | _, _, _ => none) else none
    | .Break _ => some .brk
    | .Continue _ => some .cnt
    | .Pass _ => some .pas
    | .Raise _ _ _ => some .nev
    | _ => none
end MP

end
-- MPB
section
/-! MPB: the compiled code does what the text does. -/
namespace MP
open PySem L2
inductive PEs (X : Cx) (K : PySem.W.Frag) (Wx : WX) : List Expr → Ta → Prop
  | nil : PEs X K Wx [] .nil
  | cons {e : Expr} {es : List Expr} {t : Tm} {r : Ta} : PE X e (den K Wx t) → PEs X K Wx es r → PEs X K Wx (e :: es) (.cons t r)
theorem star_cons {e : Expr} {es : List Expr} {env : Env} (h : notStar e = true) : starEach (e :: es) env = (false, eval e env) :: starEach es env := by
  cases e <;> first | rfl | (simp [notStar] at h)
theorem star_any {pos : Pos} {env : Env} : ∀ {es : List Expr}, es.all notStar = true → (backTo pos (starEach es env)).any (·.1) = false
  | [], _ => rfl
  | e :: es, h => by
    simp only [List.all_cons, Bool.and_eq_true] at h
    rw [star_cons h.1]
    show (false || (backTo pos (starEach es env)).any (·.1)) = false
    rw [star_any h.2]
    rfl
theorem PEs.pa {X : Cx} {K : PySem.W.Frag} {Wx : WX} : ∀ {es : List Expr} {as : Ta}, PEs X K Wx es as → es.all notStar = true → PA X es (denA K Wx as)
  | _, _, .nil, _ => PA.imp pa_nil fun σ H Q h => denA_nil h
  | _, _, .cons h r, n => by
    simp only [List.all_cons, Bool.and_eq_true] at n
    exact PA.imp (pa_cons h (r.pa n.2) (star_cons n.1)) fun σ H Q h => denA_cons h
theorem cArgs_ok {X : Cx} {K : PySem.W.Frag} {Wx : WX} {f : Expr → Option Tm} (hf : ∀ e t, f e = some t → PE X e (den K Wx t)) : ∀ {es : List Expr} {as : Ta}, cArgs f es = some as → PEs X K Wx es as
  | [], as, h => by simp only [cArgs] at h; cases h; exact .nil
  | e :: es, as, h => by
    unfold cArgs at h
    cases e1 : f e with
    | none => rw [e1] at h; cases h
    | some t =>
      cases e2 : cArgs f es with
      | none => rw [e1, e2] at h; cases h
      | some r =>
        rw [e1, e2] at h
        cases h
        exact .cons (hf e t e1) (cArgs_ok hf e2)
/-- the context, with the names that may be stored -/
structure Cv (P : Program) (w : World) (K : PySem.W.Frag) (mg : Str → Option Value) (base : Heap) (k : Nat) (N : List Str) (sv : Sv) (X : Cx) (Wx : WX) : Prop extends Cok P w K mg base k N sv.sc X Wx where
  fn : ∀ x, sv.asg x = true → X.fn x = true ∨ X.env.scope.names.lookup x = some .local
  kd : X.env.scope.kind = .function
structure Tbl (P : Program) (w : World) (K : PySem.W.Frag) (mg : Str → Option Value) (base : Heap) (k : Nat) (ct : Ct) : Prop where
  fns : ∀ x f, ct.fns.lookup x = some f → ∃ ad fd ps, mg x = some (.ref ad) ∧ PySem.W.keepIn K (.ref ad) = true ∧ Binds K fd ps [] ∧ FnOk P w K mg base (L2.CX P w) k ad fd ps (spF K f)
  con : ∀ x d, ct.con.lookup x = some d → ∃ v u, mg x = some u ∧ RelV v u ∧ ∀ W, Dr K W v d
  cmp : ∀ {sv : Sv} {X : Cx} {Wx : WX}, Cv P w K mg base k ct.N sv X Wx → ∀ o, OpR X (compareOp o) (fun x y => rP K (ct.cmp o) [x, y])
  spec : ∀ {sv : Sv} {X : Cx} {Wx : WX}, Cv P w K mg base k ct.N sv X Wx → ∀ {e : Expr} {f : Ta → Tm} {es : List Expr} {as : Ta}, ct.spec sv.sc e = some (f, es) → PEs X K Wx es as → PE X e (den K Wx (f as))
  isp : ∀ {sv : Sv} {X : Cx} {Wx : WX}, Cv P w K mg base k ct.N sv X Wx → ∀ {tg e : Expr} {g : List D → Option (List D)} {es : List Expr} {as : Ta}, ct.isp sv.sc tg e = some (g, es) → PEs X K Wx es as → PI X tg e (denI K Wx g as)
  msp : ∀ {sv : Sv} {X : Cx} {Wx : WX}, Cv P w K mg base k ct.N sv X Wx → ∀ {e : Expr} {x : Str} {kd : D → Bool} {f : D → List D → Option (D × Ou)} {es : List Expr} {as : Ta} {i : Nat}, ct.msp sv.sc e = some (x, kd, f, es) → ct.N[i]? = some x → Vis X.env.scope x → nmB x = true → PEs X K Wx es as → PE X e (den K Wx (.mth kd f i as))
  sst : ∀ {sv : Sv} {X : Cx} {Wx : WX}, Cv P w K mg base k ct.N sv X Wx → PSet X (rSt K ct.sst)

section
variable {P : Program} {w : World} {K : PySem.W.Frag} {mg : Str → Option Value} {base : Heap} {k : Nat} {ct : Ct} {sv : Sv} {X : Cx} {Wx : WX}
theorem rP_op {f : List D → Option Ou} {t u : Tm} {σ : St} {H : Hp} {Q : VK} (h : den K Wx (.prim f (.cons t (.cons u .nil))) σ H Q) : tOp (fun x y => rP K f [x, y]) (den K Wx t) (den K Wx u) σ H Q := by
  have h1 := denA_cons (den_prim h)
  obtain ⟨E, W, Γ, R, h1⟩ := h1
  refine ⟨E, W, Γ, R, h1.imp fun l c' R' S' e' z v V => ?_⟩
  have z1 := denA_cons (z v V)
  obtain ⟨E2, W2, Γ2, R2, z1⟩ := z1
  refine ⟨E2, W2, Γ2, R2, z1.imp fun l2 c2 R3 S3 e3 y v2 V2 => ?_⟩
  exact denA_nil (y v2 V2)
theorem den_mono {t : Tm} {σ : St} {H : Hp} {Q Q' : VK} (h : den K Wx t σ H Q) (i : ∀ v H', Q v H' → Q' v H') : den K Wx t σ H Q' := by
  obtain ⟨E, W, Γ, R, h⟩ := h
  exact ⟨E, W, Γ, R, h.imp fun l c' R' S' e' z v V => i _ _ (z v V)⟩
/-- a compiled test of a boolean value -/
theorem denT_prim {f : List D → Option Ou} {as : Ta} {σ : St} {H : Hp} {Q : Bool → Hp → Prop} (h : denT K Wx (.prim f as) σ H Q) : tTest (den K Wx (.prim f as)) σ H Q := denT_den h
theorem cBoolsV_ok {f : Expr → Option Tm} (hf : ∀ e t, f e = some t → PE X e (den K Wx t)) {op : BoolOp} {pos : Pos} : ∀ {vs : List Expr} {t : Tm}, cBools f op vs = some t → PE X (.BoolOp op vs pos) (den K Wx t)
  | [], t, h => by simp [cBools] at h
  | [a], t, h => by
    simp only [cBools] at h
    exact pe_one (hf a t h)
  | a :: b :: r, t, h => by
    unfold cBools at h
    dsimp only at h
    cases e1 : f a with
    | none => rw [e1] at h; cases h
    | some u =>
      cases e2 : cBools f op (b :: r) with
      | none => rw [e1, e2] at h; cases h
      | some v =>
        rw [e1, e2] at h
        cases h
        have h2 := cBoolsV_ok hf (pos := pos) e2
        cases op with
        | And => exact PE.imp (pe_and (hf a u e1) h2) fun σ H Q h => den_and h
        | Or => exact PE.imp (pe_or (hf a u e1) h2) fun σ H Q h => den_or h
theorem cBoolsT_ok {f : Expr → Option Tm} (hf : ∀ e t, f e = some t → PT X e (denT K Wx t)) {op : BoolOp} {pos : Pos} : ∀ {vs : List Expr} {t : Tm}, cBools f op vs = some t → PW X (.BoolOp op vs pos) (denT K Wx t)
  | [], t, h => by simp [cBools] at h
  | [a], t, h => by
    simp only [cBools] at h
    cases op with
    | And => exact pw_and1 (hf a t h)
    | Or => exact pw_or1 (hf a t h)
  | a :: b :: r, t, h => by
    unfold cBools at h
    dsimp only at h
    cases e1 : f a with
    | none => rw [e1] at h; cases h
    | some u =>
      cases e2 : cBools f op (b :: r) with
      | none => rw [e1, e2] at h; cases h
      | some v =>
        rw [e1, e2] at h
        cases h
        have h2 := cBoolsT_ok hf (pos := pos) e2
        cases op with
        | And => exact PW.imp (pw_and (hf a u e1) h2) fun σ H Q h => denT_and h
        | Or => exact PW.imp (pw_or (hf a u e1) h2) fun σ H Q h => denT_or h
theorem constD_ok {c : Const} {d : D} {j : Nat} {pos : Pos} (h : constD c = some d) : PE X (.Constant c j pos) (den K Wx (.con d)) := by
  cases c with
  | none => cases h; exact PE.imp pe_non fun σ H Q h => den_con (fun _ => .non) h
  | bool b => cases h; exact PE.imp pe_bl fun σ H Q h => den_con (fun _ => .bl b) h
  | int i => cases h; exact PE.imp pe_int fun σ H Q h => den_con (fun _ => .int i) h
  | str x => cases h; exact PE.imp pe_str fun σ H Q h => den_con (fun _ => .str x) h
  | _ => cases h
/-- targets -/
theorem cTgs_tup {f : Expr → Option Tg} : ∀ {es : List Expr} {t : Tg}, cTgs f es = some t → isTup t es.length
  | [], t, h => by simp only [cTgs] at h; cases h; rfl
  | e :: es, t, h => by
    unfold cTgs at h
    cases e1 : f e with
    | none => rw [e1] at h; cases h
    | some u =>
      cases e2 : cTgs f es with
      | none => rw [e1, e2] at h; cases h
      | some r =>
        rw [e1, e2] at h
        cases h
        exact ⟨es.length, rfl, cTgs_tup e2⟩
theorem PG.imp {e : Expr} {t t' : TG} (h : PG X e t) (i : ∀ v σ H Q, t' v σ H Q → t v σ H Q) : PG X e t' := ⟨fun pins s σ H v u Q I r w => h.run pins s σ H v u Q I r (i v σ H Q w)⟩
theorem PGs.imp {e : List Expr} {t t' : TGs} (h : PGs X e t) (i : ∀ v σ H Q, t' v σ H Q → t v σ H Q) : PGs X e t' := ⟨fun pins s σ H v u Q I r w => h.run pins s σ H v u Q I r (i v σ H Q w)⟩
theorem asg_cons {e : Expr} {es : List Expr} {env : Env} (h : notStar e = true) : assignEach (e :: es) env = (false, assign e env) :: assignEach es env := by
  cases e <;> first | rfl | (simp [notStar] at h)
theorem asg_len {env : Env} : ∀ {es : List Expr}, (assignEach es env).length = es.length
  | [] => rfl
  | e :: es => by
    cases e <;> (show (assignEach es env).length + 1 = _; rw [asg_len]; rfl)
theorem asg_no {env : Env} : ∀ {es : List Expr}, es.all notStar = true → (assignEach es env).findIdx? (·.1) = none
  | [], _ => rfl
  | e :: es, h => by
    simp only [List.all_cons, Bool.and_eq_true] at h
    rw [asg_cons h.1, List.findIdx?_cons, asg_no h.2]
    rfl
theorem cTgs_ok {f : Expr → Option Tg} (hf : ∀ e t, f e = some t → PG X e (denG K t)) : ∀ {es : List Expr} {t : Tg}, es.all notStar = true → cTgs f es = some t → PGs X es (denGs K t)
  | [], t, _, h => by simp only [cTgs] at h; cases h; exact PGs.imp pgs_nil fun v σ H Q h => denGs_nil h
  | e :: es, t, n, h => by
    simp only [List.all_cons, Bool.and_eq_true] at n
    unfold cTgs at h
    cases e1 : f e with
    | none => rw [e1] at h; cases h
    | some u =>
      cases e2 : cTgs f es with
      | none => rw [e1, e2] at h; cases h
      | some r =>
        rw [e1, e2] at h
        cases h
        exact PGs.imp (pgs_cons (hf e u e1) (cTgs_ok hf n.2 e2) (by rw [asg_cons n.1]; rfl)) fun v σ H Q h => denGs_cons h
theorem cTg_ok (C : Cv P w K mg base k ct.N sv X Wx) : ∀ {n : Nat} {e : Expr} {t : Tg}, cTg ct.N sv n e = some t → PG X e (denG K t)
  | 0, _, _, h => by simp [cTg] at h
  | n + 1, e, t, h => by
    cases e with
    | Name x pos =>
      simp only [cTg] at h
      cases e1 : ixOf ct.N x with
      | none => rw [e1] at h; cases h
      | some i =>
        rw [e1] at h
        dsimp only at h
        split at h
        · rename_i hb
          simp only [Bool.and_eq_true] at hb
          cases h
          exact PG.imp (pg_name (by rw [C.n]; exact C.nd) (by rw [C.n]; exact ixOf_get e1) (by rw [C.sc]; exact locB_ok hb.1) (C.fn x hb.2)) fun v σ H Q h => denG_nm h
        · cases h
    | Tuple es kk pos =>
      simp only [cTg] at h
      split at h
      · rename_i ns
        have q := cTgs_tup h
        have g := cTgs_ok (X := X) (K := K) (fun e t h => cTg_ok C h) ns h
        have kk := C.kk
        subst kk
        exact PG.imp (pg_tup C.calm g asg_len (asg_no ns)) fun v σ H Q h => denG_tup q h
      · cases h
    | _ => simp [cTg] at h
theorem pTru_ok {x : V} {H W : Hp} {d : D} {o : Ou} (l : Le W H) (h : Top K W H x d) (e : pTru [d] = some o) : ∃ b, o = .dat (.bl b) ∧ TruV K x H b := by
  cases h with
  | dat h =>
    cases h with
    | non => cases e; exact ⟨_, rfl, rfl⟩
    | bl b => cases e; exact ⟨_, rfl, rfl⟩
    | int i => cases e; exact ⟨_, rfl, rfl⟩
    | str s =>
      simp only [pTru] at e
      split at e
      · rename_i hl
        cases e
        exact ⟨_, rfl, lim_le hl, rfl⟩
      · cases e
    | tup q r =>
      cases e
      refine ⟨_, rfl, .inr (.inl ⟨_, q.sq l, ?_⟩)⟩
      cases r <;> rfl
    | lst q r =>
      cases e
      refine ⟨_, rfl, .inl ⟨_, q.sq l, ?_⟩⟩
      cases r <;> rfl
    | _ => cases e
  | mt h =>
    cases h with
    | lst q r =>
      cases e
      refine ⟨_, rfl, .inl ⟨_, SqL.of q, ?_⟩⟩
      cases r <;> rfl
    | _ => cases e
end
end MP

end
-- MPC
section
/-! MPC: the compiled code does what the text does: expressions. -/
namespace MP
open PySem L2
section
variable {P : Program} {w : World} {K : PySem.W.Frag} {mg : Str → Option Value} {base : Heap} {k : Nat} {ct : Ct}
/-- what the parts of a comprehension are worth -/
structure LcOk (K : PySem.W.Frag) (X : Cx) (Wx : WX) (elt tg iter : Expr) (ifs : List Expr) (scope : Scope) (p : LcP) : Prop where
  pi : PI X tg iter (denI K Wx p.g p.as)
  blk : BlkOk X.N X.env.scope scope p.own
  pg : ∀ (s : Shared) (H : Hp) (C : Addr) (cl : List (Str × Addr)) (fp : List Addr), PG (X.blk s H scope (compEnvC scope cl C X.env) fp) tg (denG K p.tg)
  pt : ∀ (s : Shared) (H : Hp) (C : Addr) (cl : List (Str × Addr)) (fp : List Addr), PTs (X.blk s H scope (compEnvC scope cl C X.env) fp) ifs (denT K W0x p.c)
  pe : ∀ (s : Shared) (H : Hp) (C : Addr) (cl : List (Str × Addr)) (fp : List Addr), PE (X.blk s H scope (compEnvC scope cl C X.env) fp) elt (den K W0x p.e)
  hs : ∀ x, foldedSetIterable iter X.env x = pure x
  own : ∀ i ∈ slots p.tg, i ∈ p.own.map (·.2)
theorem notSet_ok {e : Expr} {env : Env} (h : notSet e = true) : ∀ x, foldedSetIterable e env x = pure x := fun x => by
  cases e <;> first | rfl | (simp [notSet] at h)
theorem blk_cv {sv : Sv} {X : Cx} {Wx : WX} (C : Cv P w K mg base k ct.N sv X Wx) {scope : Scope} {own : List (Str × Nat)} (B : BlkOk ct.N sv.sc scope own) (s : Shared) (H : Hp) (Ca : Addr) (cl : List (Str × Addr)) (fp : List Addr) :
    Cv P w K mg base k ct.N (blkS sv scope) (X.blk s H scope (compEnvC scope cl Ca X.env) fp) W0x := by
  have hsc : (compEnvC scope cl Ca X.env).scope = relS scope sv.sc := by rw [← C.sc]; rfl
  refine ⟨⟨C.p, C.w, C.kk, C.m, C.b, C.n, C.nd, hsc, C.calm, C.room, PassesOwn.never, takes0⟩, fun x h => ?_, ?_⟩
  · unfold blkS at h
    simp only [Bool.or_eq_true] at h
    rcases h with h | h
    · left
      show (scope.names.lookup x == some NameKind.cell) = true
      cases q : scope.names.lookup x with
      | none => rw [q] at h; cases h
      | some kd =>
        rw [q] at h
        cases kd <;> first | rfl | cases h
    · right
      show (compEnvC scope cl Ca X.env).scope.names.lookup x = some .local
      rw [hsc]
      cases q : (relS scope sv.sc).names.lookup x with
      | none => rw [q] at h; cases h
      | some kd =>
        rw [q] at h
        cases kd <;> first | rfl | cases h
  · show (compEnvC scope cl Ca X.env).scope.kind = .function
    rw [hsc]
    exact B.kind
theorem cLc_ok (T : Tbl P w K mg base k ct) {sv : Sv} {X : Cx} {Wx : WX} (C : Cv P w K mg base k ct.N sv X Wx) {cc : Sv → Bool → Expr → Option Tm}
    (hv : ∀ (sv : Sv) (X : Cx) (Wx : WX), Cv P w K mg base k ct.N sv X Wx → ∀ e t, cc sv false e = some t → PE X e (den K Wx t)) (ht : ∀ (sv : Sv) (X : Cx) (Wx : WX), Cv P w K mg base k ct.N sv X Wx → ∀ e t, cc sv true e = some t → PT X e (denT K Wx t))
    {elt tg iter : Expr} {ifs : List Expr} {scope : Scope} {p : LcP} (h : cLc ct cc sv elt tg iter ifs scope = some p) : LcOk K X Wx elt tg iter ifs scope p := by
  unfold cLc at h
  split at h
  rotate_left
  · cases h
  rename_i hb
  simp only [Bool.and_eq_true] at hb
  have B : BlkOk ct.N sv.sc scope (ownOf ct.N scope) := blkOk_by hb.2
  cases ei : ct.isp sv.sc tg iter with
  | none => rw [ei] at h; cases h
  | some q =>
    obtain ⟨g, es⟩ := q
    rw [ei] at h
    dsimp only at h
    cases ea : cArgs (cc sv false) es with
    | none => rw [ea] at h; cases h
    | some as =>
      cases et : cTg ct.N (blkS sv scope) 10 tg with
      | none => rw [ea, et] at h; cases h
      | some t =>
        rw [ea, et] at h
        split at h
        rotate_left
        · cases h
        rename_i as' t' c e h1 h2 hc he
        cases h1
        cases h2
        split at h
        rotate_left
        · cases h
        rename_i hs
        cases h
        refine ⟨T.isp C ei (cArgs_ok (hv sv X Wx C) ea), by rw [C.n, C.sc]; exact B, fun s H Ca cl fp => cTg_ok (blk_cv C B s H Ca cl fp) et, fun s H Ca cl fp => ?_, fun s H Ca cl fp => hv _ _ _ (blk_cv C B s H Ca cl fp) _ _ he, notSet_ok hb.1, fun i hi => ?_⟩
        · split at hc
          · cases hc
            refine ⟨fun pins s' σ H' Q I h => pts_nil.run pins s' σ H' Q I ?_⟩
            obtain ⟨E, W, Γ, R, h⟩ := h
            obtain ⟨b, e, q⟩ := h.at R
            cases e
            exact q
          · exact pts_one (ht _ _ _ (blk_cv C B s H Ca cl fp) _ _ hc)
          · cases hc
        · have z := List.all_eq_true.mp hs i hi
          simpa using z
theorem isTrue_pl {e : Expr} {env : Env} (h1 : ∀ op vs p, e ≠ .BoolOp op vs p) (h2 : ∀ a p, e ≠ .UnaryOp .Not a p) (h3 : ∀ a b c p, e ≠ .IfExp a b c p) (h4 : ∀ a b c p, e ≠ .Compare a b c p) :
    ∀ whole, isTrue e env whole = (do let v ← whole; standAt e.pos; holding [v] (truthy v)) := fun whole => by
  cases e with
  | BoolOp op vs p => exact absurd rfl (h1 op vs p)
  | UnaryOp op a p =>
    cases op with
    | Not => exact absurd rfl (h2 a p)
    | _ => rfl
  | IfExp a b c p => exact absurd rfl (h3 a b c p)
  | Compare a b c p => exact absurd rfl (h4 a b c p)
  | _ => rfl
theorem den_prim1 {f : List D → Option Ou} {t : Tm} {Wx : WX} {σ : St} {H : Hp} {Q : VK} (h : den K Wx (.prim f (.cons t .nil)) σ H Q) : den K Wx t σ H fun x H1 => rP K f [x] H1 Q :=
  den_mono (denA_cons (den_prim h)) fun v H' z => denA_nil z
theorem tru_test {X : Cx} {Wx : WX} {e : Expr} {t : Tm} (hK : X.K = K) (h : PE X e (den K Wx t)) (hp : ∀ whole, isTrue e X.env whole = (do let v ← whole; standAt e.pos; holding [v] (truthy v))) : PT X e (denT K Wx (.prim pTru (.cons t .nil))) := by
  subst hK
  refine PT.imp (pt_truth h hp) fun σ H Q z => ?_
  refine den_mono (den_prim1 (denT_den z)) fun x H1 y => ?_
  obtain ⟨W, ds, o, l, tp, e1, k1⟩ := y
  cases tp with
  | cons tp r =>
    cases r
    obtain ⟨b, rfl, tv⟩ := pTru_ok l tp e1
    obtain ⟨b', e2, q⟩ := k1 (.bl b) W H1 (PSt.refl l) (.dat (.bl b))
    cases e2
    exact ⟨b, tv, q⟩
theorem lookMark {o : CmpOp} {b : Expr} : ¬ behindInMarks o b = true → behindInMarks o b = false := fun h => by
  cases q : behindInMarks o b with
  | false => rfl
  | true => exact absurd q h
theorem cc_ok (T : Tbl P w K mg base k ct) : ∀ (n : Nat) (sv : Sv) (X : Cx) (Wx : WX), Cv P w K mg base k ct.N sv X Wx → ∀ e t, (cc ct n sv false e = some t → PE X e (den K Wx t)) ∧ (cc ct n sv true e = some t → PT X e (denT K Wx t))
  | 0, sv, X, Wx, C, e, t => ⟨fun h => by simp [cc] at h, fun h => by simp [cc] at h⟩
  | n + 1, sv, X, Wx, C, e, t => by
    have ihv : ∀ (sv : Sv) (X : Cx) (Wx : WX), Cv P w K mg base k ct.N sv X Wx → ∀ e t, cc ct n sv false e = some t → PE X e (den K Wx t) := fun sv X Wx C e t => (cc_ok T n sv X Wx C e t).1
    have iht : ∀ (sv : Sv) (X : Cx) (Wx : WX), Cv P w K mg base k ct.N sv X Wx → ∀ e t, cc ct n sv true e = some t → PT X e (denT K Wx t) := fun sv X Wx C e t => (cc_ok T n sv X Wx C e t).2
    have args : ∀ {es : List Expr} {as : Ta}, cArgs (cc ct n sv false) es = some as → PEs X K Wx es as := fun h => cArgs_ok (ihv sv X Wx C) h
    refine ⟨fun h => ?_, fun h => ?_⟩
    · unfold cc at h
      split at h
      · -- a name
        rename_i x pos
        split at h
        rotate_left
        · cases h
        rename_i hn
        obtain ⟨n1, n2⟩ := nmB_ok hn
        split at h
        · rename_i hvis
          cases e1 : ixOf ct.N x with
          | none => rw [e1] at h; cases h
          | some i =>
            rw [e1] at h
            cases h
            exact PE.imp (pe_var (by rw [C.n]; exact ixOf_get e1) (by rw [C.sc]; exact visB_ok hvis) n1 n2) fun σ H Q h => den_var h
        · split at h
          rotate_left
          · cases h
          rename_i hgl
          cases e1 : ct.con.lookup x with
          | none => rw [e1] at h; cases h
          | some d =>
            rw [e1] at h
            cases h
            obtain ⟨v, u, m1, m2, m3⟩ := T.con x d e1
            exact PE.imp (pe_glob (glB_ok (by rw [C.sc]; exact hgl)) (by rw [C.m]; exact m1) m2 n1) fun σ H Q h => den_con m3 h
      · -- a constant
        rename_i c j pos
        cases e1 : constD c with
        | none => rw [e1] at h; cases h
        | some d =>
          rw [e1] at h
          cases h
          exact constD_ok e1
      · exact cBoolsV_ok (ihv sv X Wx C) h
      · rename_i a pos
        cases e1 : cc ct n sv false a with
        | none => rw [e1] at h; cases h
        | some u =>
          rw [e1] at h
          cases h
          exact PE.imp (pe_not (ihv sv X Wx C a u e1)) fun σ H Q h => den_not h
      · rename_i c a b pos
        cases e1 : cc ct n sv true c with
        | none => rw [e1] at h; cases h
        | some tc =>
          cases e2 : cc ct n sv false a with
          | none => rw [e1, e2] at h; cases h
          | some ta =>
            cases e3 : cc ct n sv false b with
            | none => rw [e1, e2, e3] at h; cases h
            | some tb =>
              rw [e1, e2, e3] at h
              cases h
              exact PE.imp (pe_ifExp (iht sv X Wx C c tc e1) (ihv sv X Wx C a ta e2) (ihv sv X Wx C b tb e3)) fun σ H Q h => den_ifx h
      · rename_i a o b pos
        cases e1 : cc ct n sv false a with
        | none => rw [e1] at h; cases h
        | some ta =>
          cases e2 : cc ct n sv false b with
          | none => rw [e1, e2] at h; cases h
          | some tb =>
            rw [e1, e2] at h
            dsimp only at h
            split at h
            · cases h
            rename_i hm
            cases h
            exact PE.imp (pe_cmpR (T.cmp C o) (ihv sv X Wx C a ta e1) (ihv sv X Wx C b tb e2) (lookMark hm)) fun σ H Q h => rP_op h
      · rename_i a o o2 b c pos
        cases e1 : cc ct n sv false a with
        | none => rw [e1] at h; cases h
        | some ta =>
          cases e2 : cc ct n sv false b with
          | none => rw [e1, e2] at h; cases h
          | some tb =>
            cases e3 : cc ct n sv false c with
            | none => rw [e1, e2, e3] at h; cases h
            | some tc =>
              rw [e1, e2, e3] at h
              dsimp only at h
              split at h
              · cases h
              rename_i hm
              cases h
              exact PE.imp (pe_chain (T.cmp C o) (T.cmp C o2) (ihv sv X Wx C a ta e1) (ihv sv X Wx C b tb e2) (ihv sv X Wx C c tc e3) (by simpa using hm)) fun σ H Q h => den_chn h
      · rename_i elt tg iter ifs scope pos
        cases e1 : cLc ct (cc ct n) sv elt tg iter ifs scope with
        | none => rw [e1] at h; cases h
        | some p =>
          rw [e1] at h
          cases h
          have L := cLc_ok T C ihv iht e1
          exact PE.imp (pe_lc C.calm (by rw [C.n]; exact C.nd) L.pi L.blk L.pg L.pt L.pe L.hs) fun σ H Q h => den_lc L.own h
      · rename_i x p e es pos
        split at h
        rotate_left
        · cases h
        rename_i hb
        simp only [Bool.and_eq_true] at hb
        obtain ⟨⟨hgl, hn⟩, hst⟩ := hb
        have hst' : notStar e = true ∧ es.all notStar = true := by simpa [List.all_cons, Bool.and_eq_true] using hst
        cases e1 : ct.fns.lookup x with
        | some f =>
          rw [e1] at h
          dsimp only at h
          cases e2 : cArgs (cc ct n sv false) (e :: es) with
          | none => rw [e2] at h; cases h
          | some as =>
            rw [e2] at h
            cases h
            obtain ⟨ad, fd, ps, m1, m2, m3, m4⟩ := T.fns x f e1
            have hp := C.p; have hw := C.w; have hk := C.kk; have hmg := C.m; have hbs := C.b
            subst hp hw hk hmg hbs
            refine PE.imp (pe_callSD (E := WE Wx) m4 C.room (glB_ok (by rw [C.sc]; exact hgl)) m1 m2 m3 .nil (fun σ => passAt C.tk σ) ((args e2).pa hst) (nmB_ok hn).1 (star_cons hst'.1) (star_any hst'.2)) fun σ H Q h => ?_
            have q := den_call h
            unfold tCallSD
            obtain ⟨E, W, Γ, R, q⟩ := q
            exact ⟨E, W, Γ, R, q.imp fun l c' R' S' e' z vs V => by
              show spF X.K f (vs ++ []) c'.H Q (WE Wx σ)
              rw [List.append_nil]
              exact z vs V⟩
        | none =>
          rw [e1] at h
          dsimp only at h
          cases e2 : ct.spec sv.sc (.Call (.Name x p) (e :: es) [] pos) with
          | none => rw [e2] at h; cases h
          | some q =>
            obtain ⟨f, es2⟩ := q
            rw [e2] at h
            dsimp only at h
            cases e3 : cArgs (cc ct n sv false) es2 with
            | none => rw [e3] at h; cases h
            | some as =>
              rw [e3] at h
              cases h
              exact T.spec C e2 (args e3)
      · -- the rest
        split at h
        · rename_i x kd f es e1
          cases e2 : ixOf ct.N x with
          | none => rw [e2] at h; cases h
          | some i =>
            cases e3 : cArgs (cc ct n sv false) es with
            | none => rw [e2, e3] at h; cases h
            | some as =>
              rw [e2, e3] at h
              dsimp only at h
              split at h
              rotate_left
              · cases h
              rename_i hb
              simp only [Bool.and_eq_true] at hb
              cases h
              exact T.msp C e1 (ixOf_get e2) (by rw [C.sc]; exact visB_ok hb.1) hb.2 (args e3)
        · split at h
          · rename_i f es2 e2
            cases e3 : cArgs (cc ct n sv false) es2 with
            | none => rw [e3] at h; cases h
            | some as =>
              rw [e3] at h
              cases h
              exact T.spec C e2 (args e3)
          · cases h
    · unfold cc at h
      split at h
      · exact (cBoolsT_ok (iht sv X Wx C) h).pt
      · rename_i a pos
        cases e1 : cc ct n sv true a with
        | none => rw [e1] at h; cases h
        | some u =>
          rw [e1] at h
          cases h
          exact PT.imp (pt_not (iht sv X Wx C a u e1)) fun σ H Q h => denT_not h
      · cases h
      · rename_i a o b pos
        cases e1 : cc ct n sv false a with
        | none => rw [e1] at h; cases h
        | some ta =>
          cases e2 : cc ct n sv false b with
          | none => rw [e1, e2] at h; cases h
          | some tb =>
            rw [e1, e2] at h
            dsimp only at h
            split at h
            · cases h
            rename_i hm
            cases h
            exact PT.imp (pt_cmpR (T.cmp C o) (ihv sv X Wx C a ta e1) (ihv sv X Wx C b tb e2) (lookMark hm)) fun σ H Q h => rP_op (denT_den h)
      · rename_i a o o2 b c pos
        cases e1 : cc ct n sv false a with
        | none => rw [e1] at h; cases h
        | some ta =>
          cases e2 : cc ct n sv false b with
          | none => rw [e1, e2] at h; cases h
          | some tb =>
            cases e3 : cc ct n sv false c with
            | none => rw [e1, e2, e3] at h; cases h
            | some tc =>
              rw [e1, e2, e3] at h
              dsimp only at h
              split at h
              · cases h
              rename_i hm
              cases h
              exact PT.imp (pt_chain (T.cmp C o) (T.cmp C o2) (ihv sv X Wx C a ta e1) (ihv sv X Wx C b tb e2) (ihv sv X Wx C c tc e3) (by simpa using hm)) fun σ H Q h => den_chn (denT_den h)
      · cases h
      · cases h
      · rename_i eX h1 h2 h3 h4 h5 h6 h7
        cases e1 : cc ct n sv false e with
        | none => rw [e1] at h; cases h
        | some u =>
          rw [e1] at h
          cases h
          exact tru_test C.kk (ihv sv X Wx C e u e1) (isTrue_pl (fun op vs p z => h1 op vs p z) (fun a p z => h2 a p z) (fun a b c p z => h3 a b c p z) fun a b c p z => h6 a b c p z)
end
end MP

end
-- MPD
section
/-! MPD: the compiled code does what the text does: statements and defs. -/
namespace MP
open PySem L2
section
variable {P : Program} {w : World} {K : PySem.W.Frag} {mg : Str → Option Value} {base : Heap} {k : Nat} {ct : Ct} {fu : Nat}
theorem sw_plain {e : Expr} {tg : Option Expr} {l : Nat} {env : Env} (h : notComp e = true) : swapsWith e tg l env = pure false := by
  cases e <;> first | rfl | (simp [notComp] at h)
theorem sw_lc {elt : Expr} {gs : List Comprehension} {scope : Scope} {pos py : Pos} {y : Str} {l : Nat} {env : Env} : ∃ b, swapsWith (.ListComp elt gs scope pos) (some (.Name y py)) l env = pure b ∧ (b = true → env.kindOf y = some .local) := by
  refine ⟨_, rfl, fun h => ?_⟩
  simp only [Bool.and_eq_true] at h
  simpa using h.1.1.2
theorem cSs_ok {X : Cx} {Wx : WX} {f : Stmt → Option Sm} (hf : ∀ st s, f st = some s → PS X st (denS K Wx fu s)) : ∀ {ss : List Stmt} {r : Ss}, cSs f ss = some r → PSs X ss (denSs K Wx fu r)
  | [], r, h => by simp only [cSs] at h; cases h; exact PSs.imp pss_nil fun D σ H h => denSs_nil h
  | s :: ss, r, h => by
    unfold cSs at h
    cases e1 : f s with
    | none => rw [e1] at h; cases h
    | some a =>
      cases e2 : cSs f ss with
      | none => rw [e1, e2] at h; cases h
      | some b =>
        rw [e1, e2] at h
        cases h
        exact PSs.imp (pss_cons (hf s a e1) (cSs_ok hf e2)) fun D σ H h => denSs_cons h
theorem tAsg_imp {t t' : TE} {g : TG} {D : Ends} {σ : St} {H : Hp} (h : tAsg t' g D σ H) (i : ∀ σ H Q, t' σ H Q → t σ H Q) : tAsg t g D σ H := i _ _ _ h
theorem swp2_ok {env : Env} {x y : Str} {px py pt pt2 : Pos} {kt k2 : Nat} {a b : Expr} (hk : env.scope.kind = .function) (h : swp2 env.scope x y px py a b = true) :
    swappedStores [.Tuple [.Name x px, .Name y py] kt pt] (.Tuple [a, b] k2 pt2) env = pure (some [x, y]) := by
  unfold swp2 at h
  simp only [Bool.and_eq_true, Bool.not_eq_true'] at h
  obtain ⟨⟨⟨⟨⟨⟨⟨h1, h2⟩, h3⟩, h4⟩, h5⟩, h6⟩, h7⟩, h8⟩ := h
  have l1 : (px.line == px.line) = true := by simp
  have k1 : (env.kindOf x == some .local && px.line == px.line) = true := by rw [l1, Bool.and_true]; exact h1
  have k2' : (env.kindOf y == some .local && py.line == px.line) = true := by rw [h4, Bool.and_true]; exact h2
  have e1 : ([x, y].eraseDups.length != 2) = false := by
    have : (y == x) = false := by
      cases q : (y == x) with
      | false => rfl
      | true => rw [eq_of_beq q] at h3; simp at h3
    simp [List.eraseDups_cons, this]
  unfold swappedStores
  simp only [pure_bind]
  rw [if_neg (by simp [Env.blockKind, hk]), if_neg (fun z => by
    simp only [List.any_cons, List.any_nil, Bool.or_false, Bool.or_eq_true] at z
    rcases z with z | z
    · cases a <;> first | (simp [notStar] at h5; done) | cases z
    · cases b <;> first | (simp [notStar] at h6; done) | cases z)]
  have g1 : (if env.kindOf x == some NameKind.local && px.line == px.line then some x else none) = some x := if_pos k1
  have g2 : (if env.kindOf y == some NameKind.local && py.line == px.line then some y else none) = some y := if_pos k2'
  simp only [List.filterMap_cons, List.filterMap_nil, List.head?_cons, Option.map_some, Option.getD_some, Expr.pos, k1, k2', ↓reduceIte]
  rw [if_neg (by rw [show [x, y].length = 2 from rfl, show [Expr.Name x px, Expr.Name y py].length = 2 from rfl, e1]; decide), if_neg (by rw [h7]; decide), if_neg (by rw [h8]; decide)]
theorem cS_ok (T : Tbl P w K mg base k ct) {sv : Sv} {X : Cx} {Wx : WX} (C : Cv P w K mg base k ct.N sv X Wx) : ∀ (n : Nat) (st : Stmt) (s : Sm), cS ct sv n st = some s → PS X st (denS K Wx fu s)
  | 0, st, s, h => by simp [cS] at h
  | n + 1, st, s, h => by
    have ihv : ∀ e t, cc ct n sv false e = some t → PE X e (den K Wx t) := fun e t => (cc_ok T n sv X Wx C e t).1
    have iht : ∀ e t, cc ct n sv true e = some t → PT X e (denT K Wx t) := fun e t => (cc_ok T n sv X Wx C e t).2
    have ihs : ∀ st s, cS ct sv n st = some s → PS X st (denS K Wx fu s) := cS_ok T C n
    unfold cS at h
    split at h
    · -- name = e
      rename_i x px e pos
      split at h
      rotate_left
      · cases h
      rename_i hb
      simp only [Bool.and_eq_true] at hb
      cases e1 : ixOf ct.N x with
      | none => rw [e1] at h; cases h
      | some i =>
        rw [e1] at h
        dsimp only at h
        have nd : X.N.Nodup := by rw [C.n]; exact C.nd
        have hi : X.N[i]? = some x := by rw [C.n]; exact ixOf_get e1
        have hl : L2.Loc X.env.scope x := by rw [C.sc]; exact locB_ok hb.1
        have hf := C.fn x hb.2
        split at h
        · rename_i elt tg iter ifs scope lp
          cases e2 : cLc ct (cc ct n) sv elt tg iter ifs scope with
          | none => rw [e2] at h; cases h
          | some p =>
            rw [e2] at h
            cases h
            have L := cLc_ok T C (fun sv X Wx C e t => (cc_ok T n sv X Wx C e t).1) (fun sv X Wx C e t => (cc_ok T n sv X Wx C e t).2) e2
            obtain ⟨b, hsw, hbl⟩ := sw_lc (elt := elt) (gs := [⟨tg, iter, ifs, 0⟩]) (scope := scope) (pos := lp) (py := px) (y := x) (l := pos.line) (env := X.env)
            cases b with
            | true => exact PS.imp (ps_setLc C.calm nd hi (hbl rfl) hsw L.pi L.blk L.pg L.pt L.pe L.hs) fun D σ H h => tAsg_imp (denS_set h) fun σ H Q z => den_lc L.own z
            | false => exact PS.imp (ps_set nd hi hl (pe_lc C.calm nd L.pi L.blk L.pg L.pt L.pe L.hs) hsw hf) fun D σ H h => tAsg_imp (denS_set h) fun σ H Q z => den_lc L.own z
        · cases h
        · cases h
        · cases h
        · rename_i eX h1 h2 h3 h4
          cases e2 : cc ct n sv false e with
          | none => rw [e2] at h; cases h
          | some t =>
            rw [e2] at h
            cases h
            have nc : notComp e = true := by
              cases e <;> first | rfl | exact (h2 _ _ _ _ rfl).elim | exact (h3 _ _ _ _ rfl).elim | exact (h4 _ _ _ _ _ rfl).elim
            exact PS.imp (ps_set nd hi hl (ihv e t e2) (sw_plain nc) hf) fun D σ H h => denS_set h
    · rename_i x px y py kt pt a b k2 pt2 pos
      split at h
      rotate_left
      · cases h
      rename_i hb
      cases e1 : ixOf ct.N x with
      | none => rw [e1] at h; cases h
      | some i =>
        cases e2 : ixOf ct.N y with
        | none => rw [e1, e2] at h; cases h
        | some j =>
          cases e3 : cArgs (cc ct n sv false) [a, b] with
          | none => rw [e1, e2, e3] at h; cases h
          | some as =>
            rw [e1, e2, e3] at h
            cases h
            rw [← C.sc] at hb
            have hb' := hb
            unfold swp2 at hb'
            simp only [Bool.and_eq_true, Bool.not_eq_true'] at hb'
            obtain ⟨⟨⟨⟨⟨⟨⟨h1, h2⟩, h3⟩, h4⟩, h5⟩, h6⟩, h7⟩, h8⟩ := hb'
            have ij : i ≠ j := fun z => by
              subst z
              have := ixOf_get e1
              rw [ixOf_get e2] at this
              cases this
              simp at h3
            exact PS.imp (ps_par C.calm (by rw [C.n]; exact C.nd) (by rw [C.n]; exact ixOf_get e1) (by rw [C.n]; exact ixOf_get e2) ij (by simpa using h1) (by simpa using h2) ((cArgs_ok ihv e3).pa (by simp [h5, h6])) (swp2_ok C.kd hb) (by unfold swapsWithSole; exact sw_plain rfl)) fun D σ H h => denS_par2 h
    · rename_i es kt pt e pos hne
      split at h
      rotate_left
      · cases h
      rename_i hb
      simp only [Bool.and_eq_true] at hb
      cases e1 : cTg ct.N sv 10 (.Tuple es kt pt) with
      | none => rw [e1] at h; cases h
      | some t =>
        cases e2 : cc ct n sv false e with
        | none => rw [e1, e2] at h; cases h
        | some u =>
          rw [e1, e2] at h
          cases h
          have nt := hb.2
          exact PS.imp (ps_asg (ihv e u e2) (cTg_ok C e1) (by unfold swapsWithSole; exact sw_plain hb.1) (by cases e <;> first | rfl | (simp [notTupE] at nt)) rfl) fun D σ H h => denS_unp h
    · cases h
      exact PS.imp ps_doc fun D σ H h => denS_pas h
    · rename_i e pos _
      split at h
      rotate_left
      · cases h
      rename_i hn
      cases e1 : cc ct n sv false e with
      | none => rw [e1] at h; cases h
      | some t =>
        rw [e1] at h
        cases h
        exact PS.imp (ps_expr (ihv e t e1) (sw_plain hn)) fun D σ H h => denS_drop h
    · rename_i e pos
      cases e1 : cc ct n sv false e with
      | none => rw [e1] at h; cases h
      | some t =>
        rw [e1] at h
        cases h
        exact PS.imp (ps_ret (ihv e t e1)) fun D σ H h => denS_ret h
    · cases h
      refine PS.imp ps_retN fun D σ H h => ?_
      exact den_con (v := .non) (fun _ => .non) (denS_ret h)
    · rename_i c a b pos
      cases e1 : cc ct n sv true c with
      | none => rw [e1] at h; cases h
      | some tc =>
        cases e2 : cSs (cS ct sv n) a with
        | none => rw [e1, e2] at h; cases h
        | some ta =>
          cases e3 : cSs (cS ct sv n) b with
          | none => rw [e1, e2, e3] at h; cases h
          | some tb =>
            rw [e1, e2, e3] at h
            cases h
            exact PS.imp (ps_if (iht c tc e1) (cSs_ok ihs e2) (cSs_ok ihs e3)) fun D σ H h => denS_ite h
    · rename_i tg iter body pos
      split at h
      rotate_left
      · cases h
      rename_i hs
      cases e1 : ct.isp sv.sc tg iter with
      | none => rw [e1] at h; cases h
      | some q =>
        obtain ⟨g, es⟩ := q
        cases e2 : cTg ct.N sv 10 tg with
        | none => rw [e1, e2] at h; cases h
        | some t =>
          cases e3 : cSs (cS ct sv n) body with
          | none => rw [e1, e2, e3] at h; cases h
          | some b =>
            rw [e1, e2, e3] at h
            dsimp only at h
            cases e4 : cArgs (cc ct n sv false) es with
            | none => rw [e4] at h; cases h
            | some as =>
              rw [e4] at h
              cases h
              exact PS.imp (ps_for C.own C.calm (T.isp C e1 (cArgs_ok ihv e4)) (cTg_ok C e2) (cSs_ok ihs e3) (notSet_ok hs)) fun D σ H h => denS_for h
    · rename_i c body pos
      cases e1 : cc ct n sv true c with
      | none => rw [e1] at h; cases h
      | some tc =>
        cases e2 : cSs (cS ct sv n) body with
        | none => rw [e1, e2] at h; cases h
        | some b =>
          rw [e1, e2] at h
          cases h
          exact PS.imp (ps_while C.own (iht c tc e1) (cSs_ok ihs e2)) fun D σ H h => denS_whl h
    · rename_i x p1 kk p2 e pos
      split at h
      rotate_left
      · cases h
      rename_i hb
      simp only [Bool.and_eq_true] at hb
      cases e1 : ixOf ct.N x with
      | none => rw [e1] at h; cases h
      | some i =>
        cases e2 : cc ct n sv false kk with
        | none => rw [e1, e2] at h; cases h
        | some tk =>
          cases e3 : cc ct n sv false e with
          | none => rw [e1, e2, e3] at h; cases h
          | some t =>
            rw [e1, e2, e3] at h
            cases h
            obtain ⟨n1, n2⟩ := nmB_ok hb.2
            have hsl : notSlice kk = true := hb.1.1.2
            have sw : swapsWithSole [.Subscript (.Name x p1) kk p2] e pos.line X.env = pure false := by
              unfold swapsWithSole
              exact sw_plain hb.1.1.1
            exact PS.imp (ps_asg (ihv e t e3) (pg_sub (pe_var (i := i) (by rw [C.n]; exact ixOf_get e1) (by rw [C.sc]; exact visB_ok hb.1.2) n1 n2) (ihv kk tk e2) (T.sst C) (fun v => by cases kk <;> first | rfl | (simp [notSlice] at hsl))) sw rfl rfl) fun D σ H h => denS_sub h
    · cases h
      exact PS.imp ps_break fun D σ H h => denS_brk h
    · cases h
      exact PS.imp ps_continue fun D σ H h => denS_cnt h
    · cases h
      exact PS.imp ps_pass fun D σ H h => denS_pas h
    · cases h
      exact PS.imp ps_never fun D σ H h => denS_nev h
    · cases h
end
/-- a def of the text, compiled -/
def svOf (sc : Scope) : Sv := ⟨sc, fun _ => true⟩
theorem def_ok {P : Program} {w : World} {K : PySem.W.Frag} {mg : Str → Option Value} {base : Heap} {k n m : Nat} {ct : Ct} {x qual : Str} {params : Arguments} {body : List Stmt} {scope : Scope} {dvs : List V} {kws : List (Str × V)} {f : Addr} {fd : FuncData} {ps : List Str} {io : List Bool} {sm : Ss}
    (T : Tbl P w K mg base k ct) (F : FunD K x qual params body scope dvs kws f fd) (S : FnScope ct.N ps scope) (hio : io.length = ps.length) (hc : cSs (cS ct (svOf scope) m) body = some sm) :
    FnOk P w K mg base (L2.CX P w) (k + 1) f fd ps (spF K ⟨io, runF io (ct.N.length - ps.length) n sm⟩) := by
  have hpl : ps.length ≤ ct.N.length := by have := congrArg List.length S.pre; rw [List.length_take] at this; omega
  refine F.ok S (fun vs H Q E h => ?_) (fun cdv A outer s H vs Q E hr h => ⟨denSs K (fun cls d _ H => E cls d H) n sm, cSs_ok (cS_ok T (sv := svOf scope) ⟨⟨rfl, rfl, rfl, rfl, rfl, rfl, S.nd, rfl, rfl, hr, passes_of rfl, takes_of rfl rfl rfl rfl⟩, fun _ _ => .inl rfl, S.kind⟩ m) hc, ?_⟩)
  · obtain ⟨W, ds, _, a, _⟩ := h
    rw [a.length.1]
    exact hio
  · exact spF_start hio hpl h
end MP

end
-- MPE
section
/-! MPE: comparisons. -/
namespace MP
open PySem L2
mutual
def toPy : D → Option PyData
  | .non => some .none
  | .bl b => some (.bool b)
  | .int i => some (.int i)
  | .str x => some (.str x)
  | .tup xs => (toPyA xs).map .tuple
  | .lst xs => (toPyA xs).map .list
  | _ => none
def toPyA : List D → Option (List PyData)
  | [] => some []
  | x :: xs => match toPy x, toPyA xs with
    | some p, some ps => some (p :: ps)
    | _, _ => none
end
def shp (d : D) : Option PyData := match toPy d with
  | some p => if SeqAt.shaped p = true then some p else none
  | none => none
theorem shp_ok {d : D} {p : PyData} (h : shp d = some p) : toPy d = some p ∧ SeqAt.shaped p = true := by
  unfold shp at h
  split at h
  · rename_i q e
    split at h
    · rename_i hs
      cases h
      exact ⟨e, hs⟩
    · cases h
  · cases h
section
variable {K : PySem.W.Frag} {W H : Hp}
mutual
theorem Dr.dp (l : Le W H) : ∀ {v : V} {d : D} {p : PyData}, Dr K W v d → toPy d = some p → Dp K H v p
  | _, _, _, .non, e => by simp only [toPy] at e; cases e; exact .non
  | _, _, _, .bl b, e => by simp only [toPy] at e; cases e; exact .bl b
  | _, _, _, .int b, e => by simp only [toPy] at e; cases e; exact .int b
  | _, _, _, .str b, e => by simp only [toPy] at e; cases e; exact .str b
  | _, _, _, .tup (ds := ds) h r, e => by
    simp only [toPy] at e
    cases q : toPyA ds with
    | none => rw [q] at e; cases e
    | some ps => rw [q] at e; cases e; exact .tup (h.sq l) (DrA.dp l r q)
  | _, _, _, .lst (ds := ds) h r, e => by
    simp only [toPy] at e
    cases q : toPyA ds with
    | none => rw [q] at e; cases e
    | some ps => rw [q] at e; cases e; exact .lst (h.sq l) (DrA.dp l r q)
  | _, _, _, .dK _ _, e => by simp [toPy] at e
  | _, _, _, .dT _ _, e => by simp [toPy] at e
  | _, _, _, .obj _ _, e => by simp [toPy] at e
theorem DrA.dp (l : Le W H) : ∀ {vs : List V} {ds : List D} {ps : List PyData}, DrA K W vs ds → toPyA ds = some ps → DpAll K H vs ps
  | _, _, _, .nil, e => by simp only [toPyA] at e; cases e; exact .nil
  | _, _, _, .cons (d := d) (ds := ds) h r, e => by
    unfold toPyA at e
    cases q : toPy d with
    | none => rw [q] at e; cases e
    | some p =>
      cases q2 : toPyA ds with
      | none => rw [q, q2] at e; cases e
      | some ps => rw [q, q2] at e; cases e; exact .cons (Dr.dp l h q) (DrA.dp l r q2)
end
theorem Top.dp (l : Le W H) {v : V} {d : D} {p : PyData} (h : Top K W H v d) (e : toPy d = some p) : Dp K H v p := by
  cases h with
  | dat h => exact h.dp l e
  | mt h =>
    cases h with
    | @lst vs ds h r =>
      simp only [toPy] at e
      cases q : toPyA ds with
      | none => rw [q] at e; cases e
      | some ps => rw [q] at e; cases e; exact .lst (SqL.of h) (DrA.dp l r q)
    | _ => simp [toPy] at e
end
def pEq (neg : Bool) (a b : D) : Option Ou := match shp a, shp b with
  | some p, some q => some (.dat (.bl (if neg then !PyData.eqv p q else PyData.eqv p q)))
  | _, _ => none
def pIn (neg : Bool) (a b : D) : Option Ou := match a, b with
  | .str x, .str y => if x.length = 1 then some (.dat (.bl (if neg then !decide (x.cps.getD 0 0 ∈ y.cps.toList) else decide (x.cps.getD 0 0 ∈ y.cps.toList)))) else none
  | a, .lst ys => (match shp a, shp (.lst ys) with
    | some p, some (.list qs) => some (.dat (.bl (if neg then !(qs.any fun z => PyData.eqv z p) else qs.any fun z => PyData.eqv z p)))
    | _, _ => none)
  | a, .tup ys => (match shp a, shp (.tup ys) with
    | some p, some (.tuple qs) => some (.dat (.bl (if neg then !(qs.any fun z => PyData.eqv z p) else qs.any fun z => PyData.eqv z p)))
    | _, _ => none)
  | _, _ => none
def ints? : List D → Option (List Int)
  | [] => some []
  | .int i :: r => (ints? r).map (i :: ·)
  | _ :: _ => none
theorem ints?_ok : ∀ {ds : List D} {ns : List Int}, ints? ds = some ns → ds = ns.map D.int
  | [], ns, h => by simp only [ints?] at h; cases h; rfl
  | d :: ds, ns, h => by
    cases d with
    | int i =>
      simp only [ints?] at h
      cases q : ints? ds with
      | none => rw [q] at h; cases h
      | some ms => rw [q] at h; cases h; rw [ints?_ok q]; rfl
    | _ => simp [ints?] at h
theorem ints?_map : ∀ (ns : List Int), ints? (ns.map D.int) = some ns
  | [] => rfl
  | n :: ns => by simp [ints?, ints?_map ns]
def isNon : D → Bool
  | .non => true
  | _ => false
/-- ==: lists of different lengths are different, whatever they hold -/
def pEqF : D → D → Option Ou
  | .lst xs, .lst ys => if xs.length ≠ ys.length then some (.dat (.bl false)) else pEq false (.lst xs) (.lst ys)
  | a, b => pEq false a b
def pCmp : CmpOp → List D → Option Ou
  | .Eq, [a, b] => pEqF a b
  | .NotEq, [a, b] => pEq true a b
  | .Lt, [.int i, .int j] => some (.dat (.bl (decide (i < j))))
  | .LtE, [.int i, .int j] => some (.dat (.bl (decide (i ≤ j))))
  | .Gt, [.int i, .int j] => some (.dat (.bl (decide (j < i))))
  | .GtE, [.int i, .int j] => some (.dat (.bl (decide (j ≤ i))))
  | .Lt, [.tup xs, .tup ys] => (match ints? xs, ints? ys with
    | some ns, some ms => some (.dat (.bl (HT.lexLt ns ms)))
    | _, _ => none)
  | .In, [a, b] => pIn false a b
  | .NotIn, [a, b] => pIn true a b
  | .Is, [a, .non] => some (.dat (.bl (isNon a)))
  | .IsNot, [a, .non] => some (.dat (.bl (!isNon a)))
  | _, _ => none
section
variable {P : Program} {w : World} {K : PySem.W.Frag} {mg : Str → Option Value} {base : Heap} {k : Nat} {N : List Str} {sv : Sv} {X : Cx} {Wx : WX}
theorem rIn_tup {X : Cx} {neg : Bool} (hu : X.A.units + 65 < cLine) : ∀ (pins : List (Addr × Obj)) (s : Shared) (σ : St) (H : Hp) (x y : V) (v u : Value) (Q : VK) (d : PyData) (ds : List PyData), Inv X pins σ H s → RelV x v → RelV y u →
    Dp X.K H x d → Dp X.K H y (.tuple ds) → SeqAt.shaped d = true → SeqAt.shaped (.tuple ds) = true → Q (.bl (if neg then !(ds.any fun z => PyData.eqv z d) else ds.any fun z => PyData.eqv z d)) H →
    wpAny (model X.prog X.w) X.A (compareOp (if neg then .NotIn else .In) v u) (EP X pins σ Q) X.xe s := by
  intro pins s σ H x y v u Q d ds I rx ry hd he sd se q
  obtain ⟨as, r1⟩ := Dp.reads I d x v hd rx
  obtain ⟨bs, r2⟩ := Dp.reads I (.tuple ds) y u he ry
  cases neg with
  | false => exact SeqAt.in_tuple_reads r2 r1 (SeqAt.canLay_of_shaped se) (SeqAt.canLay_of_shaped sd) (PyProof.Rows.room_in_shaped sd hu) ⟨.bl _, H, I, rfl, q⟩
  | true => exact SeqAt.notIn_tuple_reads r2 r1 (SeqAt.canLay_of_shaped se) (SeqAt.canLay_of_shaped sd) (PyProof.Rows.room_in_shaped sd hu) ⟨.bl _, H, I, rfl, q⟩
theorem Top.tupInts {W H : Hp} (l : Le W H) {x : V} {xs : List D} {ns : List Int} (h : Top K W H x (.tup xs)) (e : ints? xs = some ns) : ∃ a, x = .ref a ∧ SqT K H a (ns.map V.int) := by
  have e' := ints?_ok e
  subst e'
  cases h with
  | dat h =>
    cases h with
    | tup h r =>
      have := r.toInts
      subst this
      exact ⟨_, rfl, h.sq l⟩
  | mt h => cases h
theorem sign_eq {x : Str} (h : x.length = 1) : x = ⟨#[x.cps.getD 0 0]⟩ := by
  obtain ⟨c⟩ := x
  obtain ⟨c⟩ := c
  cases c with
  | nil => cases h
  | cons a r =>
    cases r with
    | nil => rfl
    | cons _ _ => simp [Str.length] at h
theorem pCmp_ok (C : Cv P w K mg base k N sv X Wx) (o : CmpOp) : OpR X (compareOp o) (fun x y => rP K (pCmp o) [x, y]) := by
  have kk := C.kk
  subst kk
  have hu : X.A.units + 65 < cLine := by have := C.room.un; omega
  intro pins s σ H x y v u Q I rx ry h
  obtain ⟨W, ds, ou, l, tp, e, k1⟩ := h
  cases tp with
  | @cons _ _ a _ ta tp =>
  cases tp with
  | @cons _ _ b _ tb tp =>
  cases tp
  have fin : ∀ {b}, ou = .dat (.bl b) → Q (.bl b) H := fun {b} e => by
    subst e
    exact k1 (.bl b) W H (PSt.refl l) (.dat (.bl b))
  have si : ∀ {z i}, Top X.K W H z (.int i) → z = .int i := fun {z i} h => by
    cases h with
    | dat h => cases h; rfl
    | mt h => cases h
  have ss : ∀ {z i}, Top X.K W H z (.str i) → z = .str i := fun {z i} h => by
    cases h with
    | dat h => cases h; rfl
    | mt h => cases h
  have sn : ∀ {z}, Top X.K W H z .non → z = .non := fun {z} h => by
    cases h with
    | dat h => cases h; rfl
    | mt h => cases h
  have sx : ∀ {z d}, Top X.K W H z d → decide (z = .non) = isNon d := fun {z d} h => by
    cases h with
    | dat h => cases h <;> simp [isNon]
    | mt h => cases h <;> simp [isNon]
  have eqs : ∀ {neg : Bool}, pEq neg a b = some ou → ∃ d e, Dp X.K H x d ∧ Dp X.K H y e ∧ SeqAt.shaped d = true ∧ SeqAt.shaped e = true ∧ Q (.bl (if neg then !PyData.eqv d e else PyData.eqv d e)) H := fun {neg} e => by
    unfold pEq at e
    split at e
    · rename_i p q e1 e2
      cases e
      exact ⟨p, q, ta.dp l (shp_ok e1).1, tb.dp l (shp_ok e2).1, (shp_ok e1).2, (shp_ok e2).2, fin rfl⟩
    · cases e
  have ins : ∀ {neg : Bool}, pIn neg a b = some ou → wpAny (model X.prog X.w) X.A (compareOp (if neg then .NotIn else .In) v u) (EP X pins σ Q) X.xe s := fun {neg} e => by
    unfold pIn at e
    split at e
    · rename_i x1 y1
      split at e
      rotate_left
      · cases e
      rename_i h1
      cases e
      have e1 := ss ta
      have e2 := ss tb
      subst e1 e2
      have e3 := sign_eq h1
      cases neg with
      | false => exact op_in_sign pins s σ H _ _ v u Q I rx ry ⟨_, _, congrArg V.str e3, rfl, fin rfl⟩
      | true => exact op_notIn_sign pins s σ H _ _ v u Q I rx ry ⟨_, _, congrArg V.str e3, rfl, fin rfl⟩
    · rename_i ys hns
      split at e
      · rename_i p qs e1 e2
        cases e
        cases neg with
        | false => exact op_inD hu pins s σ H _ _ v u Q I rx ry ⟨p, qs, ta.dp l (shp_ok e1).1, tb.dp l (shp_ok e2).1, (shp_ok e1).2, (shp_ok e2).2, fin rfl⟩
        | true => exact op_notInD hu pins s σ H _ _ v u Q I rx ry ⟨p, qs, ta.dp l (shp_ok e1).1, tb.dp l (shp_ok e2).1, (shp_ok e1).2, (shp_ok e2).2, fin rfl⟩
      · cases e
    · rename_i ys hns
      split at e
      · rename_i p qs e1 e2
        cases e
        exact rIn_tup hu pins s σ H _ _ v u Q p qs I rx ry (ta.dp l (shp_ok e1).1) (tb.dp l (shp_ok e2).1) (shp_ok e1).2 (shp_ok e2).2 (fin rfl)
      · cases e
    · cases e
  unfold pCmp at e
  split at e
  · rename_i z; cases z
    have go : pEq false a b = some ou → wpAny (model X.prog X.w) X.A (compareOp .Eq v u) (EP X pins σ Q) X.xe s := fun e => by
      obtain ⟨d, e', h1, h2, h3, h4, q⟩ := eqs e
      exact op_eqD (by omega) pins s σ H _ _ v u Q I rx ry ⟨d, e', h1, h2, h3, h4, q⟩
    unfold pEqF at e
    split at e
    · split at e
      · rename_i hl
        cases e
        have lsq : ∀ {z ds}, Top X.K W H z (.lst ds) → ∃ p vs, z = .ref p ∧ SqL X.K H p vs ∧ vs.length = ds.length := fun {z ds} h => by
          cases h with
          | dat h =>
            cases h with
            | lst h r => exact ⟨_, _, rfl, h.sq l, r.length⟩
          | mt h =>
            cases h with
            | lst h r => exact ⟨_, _, rfl, SqL.of h, r.length⟩
        obtain ⟨p1, v1, rfl, s1, l1⟩ := lsq ta
        obtain ⟨p2, v2, rfl, s2, l2⟩ := lsq tb
        cases rx
        cases ry
        obtain ⟨i1, r1, q1, _⟩ := I.list s1
        obtain ⟨i2, r2, q2, _⟩ := I.list s2
        have g1 := r1.length
        have g2 := r2.length
        exact SeqAt.eq_list_lengthsAt q1.isList q2.isList (by simp only [List.size_toArray]; rw [bne_iff_ne]; omega) (by omega) ⟨.bl false, H, I, rfl, fin rfl⟩
      · exact go e
    · exact go e
  · rename_i z; cases z
    obtain ⟨d, e', h1, h2, h3, h4, q⟩ := eqs e
    exact op_neD (by omega) pins s σ H _ _ v u Q I rx ry ⟨d, e', h1, h2, h3, h4, q⟩
  · rename_i z; cases z; cases e
    exact op_lt pins s σ H _ _ v u Q I rx ry ⟨_, _, si ta, si tb, fin rfl⟩
  · rename_i z; cases z; cases e
    exact op_le pins s σ H _ _ v u Q I rx ry ⟨_, _, si ta, si tb, fin rfl⟩
  · rename_i z; cases z; cases e
    exact op_gt pins s σ H _ _ v u Q I rx ry ⟨_, _, si ta, si tb, fin rfl⟩
  · rename_i z; cases z; cases e
    exact op_ge pins s σ H _ _ v u Q I rx ry ⟨_, _, si ta, si tb, fin rfl⟩
  · rename_i z; cases z
    split at e
    · rename_i ns ms e1 e2
      cases e
      obtain ⟨p1, rfl, q1⟩ := Top.tupInts l ta e1
      obtain ⟨p2, rfl, q2⟩ := Top.tupInts l tb e2
      exact op_ltT (by omega) pins s σ H _ _ v u Q I rx ry ⟨_, _, _, _, rfl, rfl, q1, q2, fin rfl⟩
    · cases e
  · rename_i z; cases z
    exact ins (neg := false) e
  · rename_i z; cases z
    exact ins (neg := true) e
  · rename_i z; cases z; cases e
    exact op_isN pins s σ H _ _ v u Q I rx ry ⟨sn tb, by rw [sx ta]; exact fin rfl⟩
  · rename_i z; cases z; cases e
    exact op_notN pins s σ H _ _ v u Q I rx ry ⟨sn tb, by rw [sx ta]; exact fin rfl⟩
  · cases e
end
end MP

end
-- MPF
section
/-! MPF: binary operators. -/
namespace MP
open PySem L2 PySem.Spec PyProof.Rows
/-- list + list, whichever they are -/
def rCatL (K : PySem.W.Frag) : R2 := fun x y H Q => ∃ l b xs zs, x = .ref l ∧ y = .ref b ∧ SqL K H l xs ∧ SqL K H b zs ∧ xs.length + zs.length ≤ sizeLine ∧ ∀ p, H p = none → Q (.ref p) (upd H p (.lst (xs ++ zs)))
theorem op_catL {X : Cx} : OpR X (binaryOp .Add) (rCatL X.K) := by
  intro pins s σ H x y v u Q I rx ry h
  obtain ⟨l, b, xs, zs, rfl, rfl, hH, hB, hz, q⟩ := h
  cases rx
  cases ry
  obtain ⟨its, r, ⟨⟨cls, dd, data, sl⟩, n, ho, hc, hd0, hd⟩, _⟩ := I.list hH
  obtain ⟨its2, r2, ⟨⟨cls2, dd2, data2, sl2⟩, n2, ho2, hc2, hd02, hd2⟩, _⟩ := I.list hB
  simp only at hc hd hc2 hd2
  subst hc hd hc2 hd2
  have h1 := r.length
  have h2 := r2.length
  refine PySem.concat_meets ⟨_, ho, rfl⟩ ⟨_, ho2, rfl⟩ noFill_list_add seq_list_add PySem.F.slot_list_add PySem.F.entry_list_add (PySem.F.args_list_add_2 _ _) (list_addW l b its.toArray its2.toArray n n2 dd dd2 sl sl2 (by simp only [List.size_toArray]; omega)) ⟨ho, ho2, ?_⟩
  have ea : its.toArray ++ its2.toArray = (its ++ its2).toArray := by simp
  rw [ea]
  exact ⟨.ref _, _, I.lnew (t' := s.toks) (r.append r2) (by rw [List.length_append]; omega), rfl, q _ I.fresh⟩
theorem op_powW {X : Cx} : OpR X (binaryOp .Pow) (rI (fun i j => 0 ≤ j ∧ (Builtin.Int.intBits i : Int) * j ≤ 2 ^ 27) fun i j => .int (i ^ j.toNat)) := opI fun _ _ _ _ _ _ _ hc q => pow_int hc.1 hc.2 q
def mulB (i j : Int) : Bool := decide (i.natAbs < 18446744073709551616) || decide (j.natAbs < 18446744073709551616) || decide (i.natAbs.log2 + j.natAbs.log2 < 1000000)
def pBin : Operator → List D → Option Ou
  | .Add, [.int i, .int j] => some (.dat (.int (i + j)))
  | .Add, [.str i, .str j] => if i.length + j.length ≤ LIM then some (.dat (.str (i ++ j))) else none
  | .Add, [.tup xs, .tup ys] => if xs.length + ys.length ≤ LIM then some (.dat (.tup (xs ++ ys))) else none
  | .Add, [.lst xs, .lst ys] => if xs.length + ys.length ≤ LIM then some (.new (.lst (xs ++ ys))) else none
  | .Sub, [.int i, .int j] => some (.dat (.int (i - j)))
  | .Mult, [.int i, .int j] => if mulB i j = true then some (.dat (.int (i * j))) else none
  | .Mult, [.tup xs, .int k] => if xs ≠ [] ∧ 2 ≤ k ∧ k ≤ 1000 ∧ xs.length ≤ 1000 then some (.dat (.tup (List.replicate k.toNat xs).flatten)) else none
  | .FloorDiv, [.int i, .int j] => if 0 < j ∧ j.natAbs.log2 < 9000 then some (.dat (.int (i / j))) else none
  | .Mod, [.int i, .int j] => if 0 < j then some (.dat (.int (i % j))) else none
  | .Pow, [.int i, .int j] => if 0 ≤ j ∧ (Builtin.Int.intBits i : Int) * j ≤ 134217728 then some (.dat (.int (i ^ j.toNat))) else none
  | _, _ => none
section
variable {P : Program} {w : World} {K : PySem.W.Frag} {mg : Str → Option Value} {base : Heap} {k : Nat} {N : List Str} {sv : Sv} {X : Cx} {Wx : WX} {W H : Hp}
theorem Top.int {x : V} {i : Int} (h : Top K W H x (.int i)) : x = .int i := by
  cases h with
  | dat h => cases h; rfl
  | mt h => cases h
theorem Top.bl {x : V} {i : Bool} (h : Top K W H x (.bl i)) : x = .bl i := by
  cases h with
  | dat h => cases h; rfl
  | mt h => cases h
theorem Top.str {x : V} {i : Str} (h : Top K W H x (.str i)) : x = .str i := by
  cases h with
  | dat h => cases h; rfl
  | mt h => cases h
theorem Top.non {x : V} (h : Top K W H x .non) : x = .non := by
  cases h with
  | dat h => cases h; rfl
  | mt h => cases h
theorem Top.tup {x : V} {xs : List D} (h : Top K W H x (.tup xs)) : ∃ a vs, x = .ref a ∧ TupAt K W a vs ∧ DrA K W vs xs := by
  cases h with
  | dat h =>
    cases h with
    | tup h r => exact ⟨_, _, rfl, h, r⟩
  | mt h => cases h
theorem Top.lst {x : V} {xs : List D} (l : Le W H) (h : Top K W H x (.lst xs)) : ∃ a vs, x = .ref a ∧ SqL K H a vs ∧ DrA K W vs xs := by
  cases h with
  | dat h =>
    cases h with
    | lst h r => exact ⟨_, _, rfl, h.sq l, r⟩
  | mt h =>
    cases h with
    | lst h r => exact ⟨_, _, rfl, SqL.of h, r⟩
theorem DrA.flat_rep {vs : List V} {ds : List D} (h : DrA K W vs ds) : ∀ n, DrA K W (List.replicate n vs).flatten (List.replicate n ds).flatten
  | 0 => .nil
  | n + 1 => by
    rw [List.replicate_succ, List.replicate_succ, List.flatten_cons, List.flatten_cons]
    exact h.append (DrA.flat_rep h n)
theorem DrA.nil_iff {vs : List V} {ds : List D} (h : DrA K W vs ds) : vs = [] ↔ ds = [] := by
  cases h with
  | nil => simp
  | cons _ _ => simp
/-- a new tuple -/
theorem orel_tup {vs : List V} {ds : List D} (l : Le W H) (r : DrA K W vs ds) {p : Addr} (h : H p = none) : PSt W H (upd W p (.tup vs)) (upd H p (.tup vs)) ∧ ORel K H (upd W p (.tup vs)) (upd H p (.tup vs)) (.ref p) (.dat (.tup ds)) :=
  ⟨PSt.froz l h, .dat (.tup (.inl upd_same) (r.mono (Ex.new (l.no h))))⟩
/-- a new list -/
theorem orel_lst {vs : List V} {ds : List D} (l : Le W H) (r : DrA K W vs ds) {p : Addr} (h : H p = none) : PSt W H W (upd H p (.lst vs)) ∧ ORel K H W (upd H p (.lst vs)) (.ref p) (.new (.lst ds)) :=
  ⟨PSt.fresh l h, .new h (l.no h) (.lst upd_same r)⟩
theorem pBin_ok (hk : X.K = K) (o : Operator) : OpR X (binaryOp o) (fun x y => rP K (pBin o) [x, y]) := by
  subst hk
  intro pins s σ H x y v u Q I rx ry h
  obtain ⟨W, ds, ou, l, tp, e, k1⟩ := h
  cases tp with
  | @cons _ _ a _ ta tp =>
  cases tp with
  | @cons _ _ b _ tb tp =>
  cases tp
  have fi : ∀ {b}, ou = .dat (.int b) → Q (.int b) H := fun {b} e => by
    subst e
    exact k1 (.int b) W H (PSt.refl l) (.dat (.int b))
  have fs : ∀ {b}, ou = .dat (.str b) → Q (.str b) H := fun {b} e => by
    subst e
    exact k1 (.str b) W H (PSt.refl l) (.dat (.str b))
  unfold pBin at e
  split at e
  · rename_i z; cases z; cases e
    exact op_add pins s σ H _ _ v u Q I rx ry ⟨_, _, ta.int, tb.int, fi rfl⟩
  · rename_i z; cases z
    split at e
    · rename_i hl; cases e
      exact op_add_str pins s σ H _ _ v u Q I rx ry ⟨_, _, ta.str, tb.str, lim_le hl, fs rfl⟩
    · cases e
  · rename_i z; cases z
    split at e
    · rename_i hl; cases e
      obtain ⟨a1, v1, rfl, t1, r1⟩ := ta.tup
      obtain ⟨a2, v2, rfl, t2, r2⟩ := tb.tup
      have l1 := r1.length
      have l2 := r2.length
      refine op_catA pins s σ H _ _ v u Q I rx ry ⟨a1, a2, v1, v2, rfl, rfl, t1.sq l, t2.sq l, lim_le (by omega), fun z => ?_, fun _ z => ?_, fun _ _ p hp => ?_⟩
      · rw [r1.nil_iff] at z
        subst z
        exact k1 _ W H (PSt.refl l) (.dat (.tup t2 r2))
      · rw [r2.nil_iff] at z
        subst z
        exact k1 _ W H (PSt.refl l) (.dat (by rw [List.append_nil]; exact .tup t1 r1))
      · obtain ⟨q1, q2⟩ := orel_tup l (r1.append r2) hp
        exact k1 _ _ _ q1 q2
    · cases e
  · rename_i z; cases z
    split at e
    · rename_i hl; cases e
      obtain ⟨a1, v1, rfl, t1, r1⟩ := ta.lst l
      obtain ⟨a2, v2, rfl, t2, r2⟩ := tb.lst l
      have l1 := r1.length
      have l2 := r2.length
      refine op_catL pins s σ H _ _ v u Q I rx ry ⟨a1, a2, v1, v2, rfl, rfl, t1, t2, lim_le (by omega), fun p hp => ?_⟩
      obtain ⟨q1, q2⟩ := orel_lst l (r1.append r2) hp
      exact k1 _ _ _ q1 q2
    · cases e
  · rename_i z; cases z; cases e
    exact op_sub pins s σ H _ _ v u Q I rx ry ⟨_, _, ta.int, tb.int, fi rfl⟩
  · rename_i i j z; cases z
    split at e
    · rename_i hm; cases e
      simp only [mulB, Bool.or_eq_true, decide_eq_true_eq] at hm
      rcases hm with (hm | hm) | hm
      · exact op_mul pins s σ H _ _ v u Q I rx ry ⟨_, _, ta.int, tb.int, .inl (by omega), fi rfl⟩
      · exact op_mul pins s σ H _ _ v u Q I rx ry ⟨_, _, ta.int, tb.int, .inr (by omega), fi rfl⟩
      · exact op_mulW pins s σ H _ _ v u Q I rx ry ⟨_, _, ta.int, tb.int, hm, fi rfl⟩
    · cases e
  · rename_i z; cases z
    split at e
    · rename_i hm; cases e
      obtain ⟨h1, h2, h3, h4⟩ := hm
      obtain ⟨a1, v1, rfl, t1, r1⟩ := ta.tup
      have l1 := r1.length
      refine op_repT pins s σ H _ _ v u Q I rx ry ⟨_, _, v1, rfl, tb.int, t1.sq l, fun z => h1 (r1.nil_iff.mp z), h2, h3, by omega, fun p hp => ?_⟩
      obtain ⟨q1, q2⟩ := orel_tup l (r1.flat_rep _) hp
      exact k1 _ _ _ q1 q2
    · cases e
  · rename_i z; cases z
    split at e
    · rename_i hm; cases e
      exact op_fdivW pins s σ H _ _ v u Q I rx ry ⟨_, _, ta.int, tb.int, hm, fi rfl⟩
    · cases e
  · rename_i z; cases z
    split at e
    · rename_i hm; cases e
      exact op_mod pins s σ H _ _ v u Q I rx ry ⟨_, _, ta.int, tb.int, hm, fi rfl⟩
    · cases e
  · rename_i z; cases z
    split at e
    · rename_i hm; cases e
      exact op_powW pins s σ H _ _ v u Q I rx ry ⟨_, _, ta.int, tb.int, ⟨hm.1, by have := hm.2; omega⟩, fi rfl⟩
    · cases e
  · cases e
end
end MP

end
-- MPG
section
/-! MPG: calls of built-ins. -/
namespace MP
open PySem L2 PySem.Spec PyProof.Rows
/-! sorting -/
def insI (x : Int) : List Int → List Int
  | [] => [x]
  | y :: r => if x ≤ y then x :: y :: r else y :: insI x r
def isort : List Int → List Int
  | [] => []
  | x :: r => insI x (isort r)
theorem insI_perm (x : Int) : ∀ r, (insI x r).Perm (x :: r)
  | [] => .refl _
  | y :: r => by
    unfold insI
    split
    · exact .refl _
    · exact ((insI_perm x r).cons y).trans (.swap x y r)
theorem isort_perm : ∀ r, (isort r).Perm r
  | [] => .refl _
  | x :: r => (insI_perm x (isort r)).trans ((isort_perm r).cons x)
theorem insI_srt (x : Int) : ∀ r : List Int, r.Pairwise (· ≤ ·) → (insI x r).Pairwise (· ≤ ·)
  | [], _ => by simp [insI]
  | y :: r, h => by
    unfold insI
    rw [List.pairwise_cons] at h
    split
    · rename_i q
      refine List.pairwise_cons.mpr ⟨fun z hz => ?_, List.pairwise_cons.mpr h⟩
      rcases List.mem_cons.mp hz with e | e
      · omega
      · have := h.1 z e
        omega
    · rename_i q
      refine List.pairwise_cons.mpr ⟨fun z hz => ?_, insI_srt x r h.2⟩
      rcases List.mem_cons.mp ((insI_perm x r).mem_iff.mp hz) with e | e
      · omega
      · exact h.1 z e
theorem isort_srt : ∀ r : List Int, (isort r).Pairwise (· ≤ ·)
  | [] => .nil
  | x :: r => insI_srt x _ (isort_srt r)
theorem perm_uniq : ∀ {a b : List Int}, a.Perm b → a.Pairwise (· ≤ ·) → b.Pairwise (· ≤ ·) → a = b
  | [], b, p, _, _ => (List.nil_perm.mp p).symm
  | x :: a, [], p, _, _ => absurd p.length_eq (by simp)
  | x :: a, y :: b, p, ha, hb => by
    rw [List.pairwise_cons] at ha hb
    have h1 : x ≤ y := by
      rcases List.mem_cons.mp (p.mem_iff.mpr (List.mem_cons_self (a := y) (l := b))) with e | e
      · omega
      · exact ha.1 y e
    have h2 : y ≤ x := by
      rcases List.mem_cons.mp (p.mem_iff.mp (List.mem_cons_self (a := x) (l := a))) with e | e
      · omega
      · exact hb.1 x e
    have e : x = y := by omega
    subst e
    rw [perm_uniq p.cons_inv ha.2 hb.2]
theorem isort_uniq {a b : List Int} (p : a.Perm b) (h : a.Pairwise (· ≤ ·)) : a = isort b := perm_uniq (p.trans (isort_perm b).symm) h (isort_srt b)
def maxI : Int → List Int → Int
  | m, [] => m
  | m, y :: r => maxI (if m < y then y else m) r
def minI : Int → List Int → Int
  | m, [] => m
  | m, y :: r => minI (if y < m then y else m) r
theorem maxI_ok : ∀ (r : List Int) (m : Int), (maxI m r = m ∨ maxI m r ∈ r) ∧ m ≤ maxI m r ∧ ∀ y ∈ r, y ≤ maxI m r
  | [], m => ⟨.inl rfl, Int.le_refl _, nofun⟩
  | y :: r, m => by
    have h := maxI_ok r (if m < y then y else m)
    unfold maxI
    obtain ⟨h1, h2, h3⟩ := h
    refine ⟨?_, ?_, fun z hz => ?_⟩
    · rcases h1 with h1 | h1
      · by_cases q : m < y
        · rw [if_pos q] at h1 ⊢; exact .inr (by rw [h1]; exact List.mem_cons_self)
        · rw [if_neg q] at h1 ⊢; exact .inl h1
      · exact .inr (List.mem_cons_of_mem _ h1)
    · by_cases q : m < y
      · rw [if_pos q] at h2 ⊢; omega
      · rw [if_neg q] at h2 ⊢; exact h2
    · rcases List.mem_cons.mp hz with e | e
      · subst e
        by_cases q : m < z
        · rw [if_pos q] at h2 ⊢; exact h2
        · rw [if_neg q] at h2 ⊢; omega
      · exact h3 z e
theorem minI_ok : ∀ (r : List Int) (m : Int), (minI m r = m ∨ minI m r ∈ r) ∧ minI m r ≤ m ∧ ∀ y ∈ r, minI m r ≤ y
  | [], m => ⟨.inl rfl, Int.le_refl _, nofun⟩
  | y :: r, m => by
    have h := minI_ok r (if y < m then y else m)
    unfold minI
    obtain ⟨h1, h2, h3⟩ := h
    refine ⟨?_, ?_, fun z hz => ?_⟩
    · rcases h1 with h1 | h1
      · by_cases q : y < m
        · rw [if_pos q] at h1 ⊢; exact .inr (by rw [h1]; exact List.mem_cons_self)
        · rw [if_neg q] at h1 ⊢; exact .inl h1
      · exact .inr (List.mem_cons_of_mem _ h1)
    · by_cases q : y < m
      · rw [if_pos q] at h2 ⊢; omega
      · rw [if_neg q] at h2 ⊢; exact h2
    · rcases List.mem_cons.mp hz with e | e
      · subst e
        by_cases q : z < m
        · rw [if_pos q] at h2 ⊢; exact h2
        · rw [if_neg q] at h2 ⊢; omega
      · exact h3 z e
def bools? : List D → Option (List Bool)
  | [] => some []
  | .bl i :: r => (bools? r).map (i :: ·)
  | _ :: _ => none
theorem bools?_ok : ∀ {ds : List D} {ns : List Bool}, bools? ds = some ns → ds = ns.map D.bl
  | [], ns, h => by simp only [bools?] at h; cases h; rfl
  | d :: ds, ns, h => by
    cases d with
    | bl i =>
      simp only [bools?] at h
      cases q : bools? ds with
      | none => rw [q] at h; cases h
      | some ms => rw [q] at h; cases h; rw [bools?_ok q]; rfl
    | _ => simp [bools?] at h
theorem bools?_map : ∀ (ns : List Bool), bools? (ns.map D.bl) = some ns
  | [] => rfl
  | n :: ns => by simp [bools?, bools?_map ns]
/-! the functions -/
def pLen : List D → Option Ou
  | [.str x] => if x.length ≤ LIM then some (.dat (.int x.length)) else none
  | [.lst xs] => some (.dat (.int xs.length))
  | [.tup xs] => some (.dat (.int xs.length))
  | _ => none
def pAbs : List D → Option Ou
  | [.int i] => some (.dat (.int (if i < 0 then -i else i)))
  | _ => none
def pMax : List D → Option Ou
  | [.int i, .int j] => some (.dat (.int (if j > i then j else i)))
  | [.lst xs] => (match ints? xs with
    | some (m :: r) => some (.dat (.int (maxI m r)))
    | _ => none)
  | _ => none
def pMin : List D → Option Ou
  | [.int i, .int j] => some (.dat (.int (if j < i then j else i)))
  | [.lst xs] => (match ints? xs with
    | some (m :: r) => some (.dat (.int (minI m r)))
    | _ => none)
  | _ => none
def pSum : List D → Option Ou
  | [.lst xs] => (match ints? xs with
    | some ns => some (.dat (.int ns.sum))
    | _ => none)
  | _ => none
def pAll : List D → Option Ou
  | [.lst xs] => (match bools? xs with
    | some bs => some (.dat (.bl (bs.all id)))
    | _ => none)
  | _ => none
def pAny : List D → Option Ou
  | [.lst xs] => (match bools? xs with
    | some bs => some (.dat (.bl (bs.any id)))
    | _ => none)
  | _ => none
def pInt : List D → Option Ou
  | [.int i] => some (.dat (.int i))
  | [.bl b] => some (.dat (.int (if b then 1 else 0)))
  | _ => none
def pTup : List D → Option Ou
  | [.lst xs] => some (.dat (.tup xs))
  | [.tup xs] => some (.dat (.tup xs))
  | _ => none
def pLst : List D → Option Ou
  | [.lst xs] => some (.new (.lst xs))
  | [.tup xs] => some (.new (.lst xs))
  | _ => none
def pSrt : List D → Option Ou
  | [.lst xs] => (match ints? xs with
    | some ns => some (.new (.lst ((isort ns).map D.int)))
    | _ => none)
  | _ => none
def pSrtR : List D → Option Ou
  | [.lst xs] => (match ints? xs with
    | some ns => some (.new (.lst ((isort ns).reverse.map D.int)))
    | _ => none)
  | _ => none
def pRepr : List D → Option Ou
  | [.non] => some (.dat (.str "None"))
  | [.bl b] => some (.dat (.str (if b then "True" else "False")))
  | [.int i] => if i.natAbs.log2 < 1920 then some (.dat (.str (toString i))) else none
  | _ => none
section
variable {X : Cx} {K : PySem.W.Frag} {W H : Hp}
theorem Top.ints {x : V} {xs : List D} {ns : List Int} (l : Le W H) (h : Top K W H x (.lst xs)) (e : ints? xs = some ns) : ∃ a, x = .ref a ∧ SqL K H a (ns.map V.int) := by
  obtain ⟨a, vs, rfl, s, r⟩ := h.lst l
  have := ints?_ok e
  subst this
  have := r.toInts
  subst this
  exact ⟨a, rfl, s⟩
theorem Top.bools {x : V} {xs : List D} {ns : List Bool} (l : Le W H) (h : Top K W H x (.lst xs)) (e : bools? xs = some ns) : ∃ a, x = .ref a ∧ SqL K H a (ns.map V.bl) := by
  obtain ⟨a, vs, rfl, s, r⟩ := h.lst l
  have := bools?_ok e
  subst this
  have := r.toBools
  subst this
  exact ⟨a, rfl, s⟩
theorem rP_int {f : List D → Option Ou} {Q : VK} {W H : Hp} {i : Int} (l : Le W H) (k : ∀ v W' H', PSt W H W' H' → ORel K H W' H' v (.dat (.int i)) → Q v H') : Q (.int i) H := k _ W H (PSt.refl l) (.dat (.int i))
theorem c_len (hk : X.K = K) : CallR X (.builtin "len") (rP K pLen) := by
  subst hk
  intro pins s σ H xs us Q I r h
  obtain ⟨W, ds, o, l, tp, e, k⟩ := h
  refine call_len pins s σ H xs us Q I r ?_
  unfold pLen at e
  split at e
  · cases tp with | cons t tp => cases tp; split at e; rotate_left; cases e
                                 rename_i hl; cases e; have := t.str; subst this
                                 exact ⟨_, _, rfl, ⟨lim_le hl, rfl⟩, k _ W H (PSt.refl l) (.dat (.int _))⟩
  · cases tp with | cons t tp => cases tp; cases e; obtain ⟨a, vs, rfl, q, r⟩ := t.lst l
                                 refine ⟨_, _, rfl, .inl ⟨_, q, rfl⟩, ?_⟩
                                 rw [r.length]
                                 exact k _ W H (PSt.refl l) (.dat (.int _))
  · cases tp with | cons t tp => cases tp; cases e; obtain ⟨a, vs, rfl, q, r⟩ := t.tup
                                 refine ⟨_, _, rfl, .inr ⟨_, q.sq l, rfl⟩, ?_⟩
                                 rw [r.length]
                                 exact k _ W H (PSt.refl l) (.dat (.int _))
  · cases e
theorem c_abs (hk : X.K = K) : CallR X (.builtin "abs") (rP K pAbs) := by
  subst hk
  intro pins s σ H xs us Q I r h
  obtain ⟨W, ds, o, l, tp, e, k⟩ := h
  refine call_abs pins s σ H xs us Q I r ?_
  unfold pAbs at e
  split at e
  · cases tp with | cons t tp => cases tp; cases e; have := t.int; subst this; exact ⟨_, rfl, k _ W H (PSt.refl l) (.dat (.int _))⟩
  · cases e
theorem c_int (hk : X.K = K) : CallR X (.type "int") (rP K pInt) := by
  subst hk
  intro pins s σ H xs us Q I r h
  obtain ⟨W, ds, o, l, tp, e, k⟩ := h
  refine call_int1 pins s σ H xs us Q I r ?_
  unfold pInt at e
  split at e
  · cases tp with | cons t tp => cases tp; cases e; have := t.int; subst this; exact .inl ⟨_, rfl, k _ W H (PSt.refl l) (.dat (.int _))⟩
  · cases tp with | cons t tp => cases tp; cases e; have := t.bl; subst this; exact .inr ⟨_, rfl, k _ W H (PSt.refl l) (.dat (.int _))⟩
  · cases e
theorem c_max (hk : X.K = K) (hc : X.calm = true) : CallR X (.builtin "max") (rP K pMax) := by
  subst hk
  intro pins s σ H xs us Q I r h
  obtain ⟨W, ds, o, l, tp, e, k⟩ := h
  unfold pMax at e
  split at e
  · refine call_max2 hc pins s σ H xs us Q I r ?_
    cases tp with | cons t tp => cases tp with | cons t2 tp => cases tp; cases e; have := t.int; have := t2.int; subst_vars; exact ⟨_, _, rfl, k _ W H (PSt.refl l) (.dat (.int _))⟩
  · split at e
    · rename_i m r2 ei
      cases e
      refine cr_max hc pins s σ H xs us Q I r ?_
      cases tp with | cons t tp => cases tp; obtain ⟨a, rfl, q⟩ := t.ints l ei
                                   refine ⟨a, _, rfl, q, by simp, fun M h1 h2 => ?_⟩
                                   have hm := maxI_ok r2 m
                                   have : M = maxI m r2 := by
                                     have g1 : maxI m r2 ≤ M := by
                                       rcases hm.1 with z | z
                                       · rw [z]; exact h2 m List.mem_cons_self
                                       · exact h2 _ (List.mem_cons_of_mem _ z)
                                     have g2 : M ≤ maxI m r2 := by
                                       rcases List.mem_cons.mp h1 with z | z
                                       · rw [z]; exact hm.2.1
                                       · exact hm.2.2 M z
                                     omega
                                   subst this
                                   exact k _ W H (PSt.refl l) (.dat (.int _))
    · cases e
  · cases e
theorem c_min (hk : X.K = K) (hc : X.calm = true) : CallR X (.builtin "min") (rP K pMin) := by
  subst hk
  intro pins s σ H xs us Q I r h
  obtain ⟨W, ds, o, l, tp, e, k⟩ := h
  unfold pMin at e
  split at e
  · refine call_min2 hc pins s σ H xs us Q I r ?_
    cases tp with | cons t tp => cases tp with | cons t2 tp => cases tp; cases e; have := t.int; have := t2.int; subst_vars; exact ⟨_, _, rfl, k _ W H (PSt.refl l) (.dat (.int _))⟩
  · split at e
    · rename_i m r2 ei
      cases e
      refine cr_min hc pins s σ H xs us Q I r ?_
      cases tp with | cons t tp => cases tp; obtain ⟨a, rfl, q⟩ := t.ints l ei
                                   refine ⟨a, _, rfl, q, by simp, fun M h1 h2 => ?_⟩
                                   have hm := minI_ok r2 m
                                   have : M = minI m r2 := by
                                     have g1 : M ≤ minI m r2 := by
                                       rcases hm.1 with z | z
                                       · rw [z]; exact h2 m List.mem_cons_self
                                       · exact h2 _ (List.mem_cons_of_mem _ z)
                                     have g2 : minI m r2 ≤ M := by
                                       rcases List.mem_cons.mp h1 with z | z
                                       · rw [z]; exact hm.2.1
                                       · exact hm.2.2 M z
                                     omega
                                   subst this
                                   exact k _ W H (PSt.refl l) (.dat (.int _))
    · cases e
  · cases e
theorem c_sum (hk : X.K = K) (hc : X.calm = true) : CallR X (.builtin "sum") (rP K pSum) := by
  subst hk
  intro pins s σ H xs us Q I r h
  obtain ⟨W, ds, o, l, tp, e, k⟩ := h
  unfold pSum at e
  split at e
  · split at e
    · rename_i ns ei
      cases e
      refine cr_sum hc pins s σ H xs us Q I r ?_
      cases tp with | cons t tp => cases tp; obtain ⟨a, rfl, q⟩ := t.ints l ei; exact ⟨a, _, rfl, q, k _ W H (PSt.refl l) (.dat (.int _))⟩
    · cases e
  · cases e
theorem c_all (hk : X.K = K) (hc : X.calm = true) : CallR X (.builtin "all") (rP K pAll) := by
  subst hk
  intro pins s σ H xs us Q I r h
  obtain ⟨W, ds, o, l, tp, e, k⟩ := h
  unfold pAll at e
  split at e
  · split at e
    · rename_i ns ei
      cases e
      refine cr_all hc pins s σ H xs us Q I r ?_
      cases tp with | cons t tp => cases tp; obtain ⟨a, rfl, q⟩ := t.bools l ei; exact ⟨a, _, rfl, q, k _ W H (PSt.refl l) (.dat (.bl _))⟩
    · cases e
  · cases e
theorem c_any (hk : X.K = K) (hc : X.calm = true) : CallR X (.builtin "any") (rP K pAny) := by
  subst hk
  intro pins s σ H xs us Q I r h
  obtain ⟨W, ds, o, l, tp, e, k⟩ := h
  unfold pAny at e
  split at e
  · split at e
    · rename_i ns ei
      cases e
      refine cr_any hc pins s σ H xs us Q I r ?_
      cases tp with | cons t tp => cases tp; obtain ⟨a, rfl, q⟩ := t.bools l ei; exact ⟨a, _, rfl, q, k _ W H (PSt.refl l) (.dat (.bl _))⟩
    · cases e
  · cases e
theorem c_tup (hk : X.K = K) : CallR X (.type "tuple") (rP K pTup) := by
  subst hk
  intro pins s σ H xs us Q I r h
  obtain ⟨W, ds, o, l, tp, e, k⟩ := h
  refine call_tuple_of pins s σ H xs us Q I r ?_
  unfold pTup at e
  split at e
  · cases e
    cases tp with | cons t tp => cases tp; obtain ⟨a, vs, rfl, q, r⟩ := t.lst l
                                 refine ⟨a, vs, rfl, .inl ⟨q, fun p hp => ?_⟩⟩
                                 obtain ⟨q1, q2⟩ := orel_tup l r hp
                                 exact k _ _ _ q1 q2
  · cases e
    cases tp with | cons t tp => cases tp; obtain ⟨a, vs, rfl, q, r⟩ := t.tup
                                 exact ⟨a, vs, rfl, .inr ⟨q.sq l, k _ W H (PSt.refl l) (.dat (.tup q r))⟩⟩
  · cases e
theorem c_lst (hk : X.K = K) : CallR X (.type "list") (rP K pLst) := by
  subst hk
  intro pins s σ H xs us Q I r h
  obtain ⟨W, ds, o, l, tp, e, k⟩ := h
  refine call_list_of pins s σ H xs us Q I r ?_
  unfold pLst at e
  split at e
  · cases e
    cases tp with | cons t tp => cases tp; obtain ⟨a, vs, rfl, q, r⟩ := t.lst l
                                 refine ⟨a, vs, rfl, .inl q, fun p hp => ?_⟩
                                 obtain ⟨q1, q2⟩ := orel_lst l r hp
                                 exact k _ _ _ q1 q2
  · cases e
    cases tp with | cons t tp => cases tp; obtain ⟨a, vs, rfl, q, r⟩ := t.tup
                                 refine ⟨a, vs, rfl, .inr (q.sq l), fun p hp => ?_⟩
                                 obtain ⟨q1, q2⟩ := orel_lst l r hp
                                 exact k _ _ _ q1 q2
  · cases e
theorem c_srt (hk : X.K = K) : CallR X (.builtin "sorted") (rP K pSrt) := by
  subst hk
  intro pins s σ H xs us Q I r h
  obtain ⟨W, ds, o, l, tp, e, k⟩ := h
  unfold pSrt at e
  split at e
  · split at e
    · rename_i ns ei
      cases e
      refine cr_sortedI pins s σ H xs us Q I r ?_
      cases tp with | cons t tp => cases tp; obtain ⟨a, rfl, q⟩ := t.ints l ei
                                   refine ⟨a, _, rfl, q, fun ns' p h1 h2 hp => ?_⟩
                                   have := isort_uniq h1 h2
                                   subst this
                                   obtain ⟨q1, q2⟩ := orel_lst (K := X.K) l (DrA.ints (ns := isort ns)) hp
                                   exact k _ _ _ q1 q2
    · cases e
  · cases e
theorem c_srtR (hk : X.K = K) : CallRK X (.builtin "sorted") [Str.ofString "reverse"] (fun xs zs H Q => zs = [.bl true] ∧ rP K pSrtR xs H Q) := by
  subst hk
  intro pins s σ H xs zs us ws Q I r rz h
  obtain ⟨rfl, W, ds, o, l, tp, e, k⟩ := h
  unfold pSrtR at e
  split at e
  · split at e
    · rename_i ns ei
      cases e
      refine cr_sortedRev (b := true) pins s σ H xs _ us ws Q I r rz ?_
      cases tp with | cons t tp => cases tp; obtain ⟨a, rfl, q⟩ := t.ints l ei
                                   refine ⟨a, _, rfl, rfl, q, fun ns' p h1 h2 hp => ?_⟩
                                   have h3 : ns'.Pairwise (· ≥ ·) := h2
                                   have h4 : ns'.reverse.Pairwise (· ≤ ·) := List.pairwise_reverse.mpr h3
                                   have h5 := isort_uniq ((List.reverse_perm _).trans h1) h4
                                   have h6 : ns' = (isort ns).reverse := by rw [← h5, List.reverse_reverse]
                                   subst h6
                                   obtain ⟨q1, q2⟩ := orel_lst (K := X.K) l (DrA.ints (ns := (isort ns).reverse)) hp
                                   exact k _ _ _ q1 q2
    · cases e
  · cases e
theorem c_repr (hk : X.K = K) : CallR X (.builtin "repr") (rP K pRepr) := by
  subst hk
  intro pins s σ H xs us Q I r h
  obtain ⟨W, ds, o, l, tp, e, k⟩ := h
  unfold pRepr at e
  split at e
  · cases tp with | cons t tp => cases tp; cases e; have := t.non; subst this
                                 obtain ⟨u, rfl, rx⟩ := vals1 r
                                 cases rx
                                 exact PySem.P.repr_of_none ⟨.str _, H, I.tok _, ⟨_, rfl⟩, k _ W H (PSt.refl l) (.dat (.str _))⟩
  · cases tp with | cons t tp => cases tp; cases e; have := t.bl; subst this
                                 obtain ⟨u, rfl, rx⟩ := vals1 r
                                 cases rx
                                 exact PySem.P.repr_of_bool ⟨.str _, H, I.tok _, ⟨_, rfl⟩, k _ W H (PSt.refl l) (.dat (.str _))⟩
  · split at e
    · rename_i hz
      cases tp with | cons t tp => cases tp; cases e; have := t.int; subst this
                                   obtain ⟨u, rfl, tt, rfl⟩ := vals1 r
                                   exact PySem.P.repr_of_int hz ⟨.str _, H, I.tok _, ⟨_, rfl⟩, k _ W H (PSt.refl l) (.dat (.str _))⟩
    · cases e
  · cases e
end
end MP

end
-- MPH
section
/-! MPH: what loops and comprehensions walk. -/
namespace MP
open PySem L2 PySem.Spec PyProof.Rows
/-- what is walked stays as it is while the changeable things change -/
def StA (K : PySem.W.Frag) (W H1 : Hp) (M : Addr → Prop) (vs : List V) (ds : List D) : Prop :=
  ∀ H, (∀ a o, H1 a = some o → ¬ M a → H a = some o) → Le W H ∧ TopA K W H vs ds
theorem locks_mem : ∀ {Γ : List Slot} {ls : List Vl} {i : Nat}, Vl.ref i ∈ ls → (∃ b d, Γ[i]? = some (.mt b d)) → i ∈ locks Γ ls
  | Γ, [], i, h, _ => by cases h
  | Γ, l :: ls, i, h, ⟨b, d, e⟩ => by
    rcases List.mem_cons.mp h with z | z
    · subst z
      simp only [locks, e]
      exact List.mem_cons_self
    · have ih := locks_mem (Γ := Γ) z ⟨b, d, e⟩
      cases l with
      | ref j =>
        simp only [locks]
        split
        · exact List.mem_cons_of_mem _ ih
        · exact ih
      | dat _ => exact ih
      | new _ => exact ih
section
variable {K : PySem.W.Frag} {Wx : WX} {σ : L2.St} {H : Hp} {c0 c : Cf}
theorem muL_mt {ls : List Vl} {a : Addr} (h : muL c ls a) : ∃ i b d, c.Γ[i]? = some (.mt b d) ∧ c.σ[i]? = some (some (.ref a)) ∧ i ∉ locks c.Γ ls := by
  obtain ⟨i, b, d, g, e⟩ := h
  rcases lockA_get g with ⟨z, n⟩ | ⟨b', d', m, z, w⟩
  · exact ⟨i, b, d, z, e, fun hm => n hm b d rfl⟩
  · cases w
theorem stay_all {ls0 : List Vl} (R : Rel K c) {H : Hp} (fr : ∀ a o, c.H a = some o → ¬ muL c ls0 a → H a = some o) : ∀ {vs : List V} {ls : List Vl} {ds : List D}, (∀ l ∈ ls, l ∈ ls0) → VRelA K c0 c vs ls → resA c.Γ ls = some ds → TopA K c.W H vs ds
  | _, _, _, _, .nil, e => by cases e; exact .nil
  | v0 :: vs0, l :: ls, ds0, hm, .cons h r _, e => by
    unfold resA at e
    cases e1 : res c.Γ l with
    | none => rw [e1] at e; cases e
    | some d =>
      cases e2 : resA c.Γ ls with
      | none => rw [e1, e2] at e; cases e
      | some ds =>
        rw [e1, e2] at e
        cases e
        refine .cons ?_ (stay_all R fr (fun l hl => hm l (List.mem_cons_of_mem _ hl)) r e2)
        cases h with
        | dat q => cases e1; exact .dat q
        | @new a d0 h0 hw ha q =>
          cases e1
          refine .mt (q.mono (Ex.refl _) fun o ho => fr a o ho fun m => ?_)
          obtain ⟨i, b, d, g, e, _⟩ := muL_mt m
          exact ha ⟨i, ⟨b, d, .inl g⟩, e⟩
        | @ref v i q =>
          have ml := hm (.ref i) List.mem_cons_self
          simp only [res] at e1
          have key : ∀ b d0, (c.Γ[i]? = some (.mt b d0) ∨ c.Γ[i]? = some (.lck b d0)) → ∃ a, v0 = .ref a ∧ MutAt K c.W H a d0 := fun b d0 g => by
            obtain ⟨a, e1, e2, e3, e4⟩ := R.am i b d0 g
            rw [q] at e1
            cases e1
            refine ⟨a, rfl, e3.mono (Ex.refl _) fun o ho => fr a o ho fun m => ?_⟩
            obtain ⟨j, b', d', g', e', n'⟩ := muL_mt m
            have ji : i = j := R.dist i j a ⟨b, d0, g⟩ ⟨b', d', .inl g'⟩ q e'
            subst ji
            exact n' (locks_mem ml ⟨b', d', g'⟩)
          cases g : c.Γ[i]? with
          | none => rw [g] at e1; cases e1
          | some s =>
            rw [g] at e1
            cases s with
            | no => cases e1
            | dat d' =>
              cases e1
              obtain ⟨v', z1, z2⟩ := R.dat _ _ g
              rw [q] at z1
              cases z1
              exact .dat z2
            | mt b d' =>
              obtain ⟨a, rfl, m⟩ := key b d' (.inl g)
              cases e1
              exact .mt m
            | lck b d' =>
              obtain ⟨a, rfl, m⟩ := key b d' (.inr g)
              cases e1
              exact .mt m
theorem denI_A {g : List D → Option (List D)} {as : Ta} {R : It → Hp → Prop} (h : denI K Wx g as σ H R) :
    denA K Wx as σ H fun vs H1 => ∃ W M ds xs, Le W H1 ∧ StA K W H1 M vs ds ∧ g ds = some xs ∧ ∀ J W2 H2, PSt W H1 W2 H2 → ItOk K W2 H2 M J xs → R J H2 := by
  obtain ⟨E, W, Γ, Rl, h⟩ := h
  refine ⟨E, W, Γ, Rl, h.imp fun ls c1 R1 S1 e1 h1 vs V1 => ?_⟩
  obtain ⟨ds, xs, er, eg, k⟩ := h1
  refine ⟨c1.W, muL c1 ls, ds, xs, R1.le, fun H' fr => ?_, eg, fun J W2 H2 p q => k J W2 H2 p q⟩
  refine ⟨fun a o ho => ?_, stay_all R1 fr (fun l h => h) V1 er⟩
  have nm : ¬ muL c1 ls a := fun m => by
    obtain ⟨i, b, d, g, e, _⟩ := muL_mt m
    obtain ⟨a', z1, z2, _⟩ := R1.mt i b d g
    rw [e] at z1
    cases z1
    rw [ho] at z2
    cases z2
  rcases R1.le a o ho with q | ⟨ob, q⟩
  · exact .inl (fr a _ q nm)
  · exact .inr ⟨ob, fr a _ q nm⟩
/-! lists, tuples, texts -/
def strD (x : Str) : List D := x.cps.toList.map fun c => .str ⟨#[c]⟩
def gSeq : List D → Option (List D)
  | [.lst xs] => some xs
  | [.tup xs] => some xs
  | [.str x] => some (strD x)
  | _ => none
theorem itOk_list {W W2 H1 H2 : Hp} {M : Addr → Prop} {a : Addr} {xs : List D} (s : ∀ H, (∀ a o, H1 a = some o → ¬ M a → H a = some o) → Le W H ∧ ∃ vs, SqL K H a vs ∧ DrA K W vs xs) (p : PSt W H1 W2 H2) (hM : ∀ x o, H1 x = some o → H2 x = some o) : ItOk K W2 H2 M (Itl K a) xs where
  go := fun i H hi fr => by
    obtain ⟨_, vs, q, r⟩ := s H fun x o e n => fr x o (hM x o e) n
    have : i < vs.length := by rw [r.length]; exact hi
    exact ⟨vs, vs[i], q, List.getElem?_eq_getElem this⟩
  yl := fun i H x H' d Wc hd fr y ex l => by
    obtain ⟨_, vs, q, r⟩ := s H fun x o e n => fr x o (hM x o e) n
    obtain ⟨rfl, y⟩ := y
    obtain ⟨v, e1, e2⟩ := r.get hd
    have e3 := y vs q
    rw [e1] at e3
    cases e3
    exact ⟨Wc, PSt.refl l, (e2.mono p.w).mono ex⟩
  stop := fun H fr => by
    obtain ⟨_, vs, q, r⟩ := s H fun x o e n => fr x o (hM x o e) n
    exact ⟨vs, q, by rw [r.length]; exact Nat.le_refl _⟩
theorem itOk_tup {W W2 H1 H2 : Hp} {M : Addr → Prop} {a : Addr} {xs : List D} (s : ∀ H, (∀ a o, H1 a = some o → ¬ M a → H a = some o) → Le W H ∧ ∃ vs, SqT K H a vs ∧ DrA K W vs xs) (p : PSt W H1 W2 H2) (hM : ∀ x o, H1 x = some o → H2 x = some o) : ItOk K W2 H2 M (Itt K a) xs where
  go := fun i H hi fr => by
    obtain ⟨_, vs, q, r⟩ := s H fun x o e n => fr x o (hM x o e) n
    have : i < vs.length := by rw [r.length]; exact hi
    exact ⟨vs, vs[i], q, List.getElem?_eq_getElem this⟩
  yl := fun i H x H' d Wc hd fr y ex l => by
    obtain ⟨_, vs, q, r⟩ := s H fun x o e n => fr x o (hM x o e) n
    obtain ⟨rfl, y⟩ := y
    obtain ⟨v, e1, e2⟩ := r.get hd
    have e3 := y vs q
    rw [e1] at e3
    cases e3
    exact ⟨Wc, PSt.refl l, (e2.mono p.w).mono ex⟩
  stop := fun H fr => by
    obtain ⟨_, vs, q, r⟩ := s H fun x o e n => fr x o (hM x o e) n
    exact ⟨vs, q, by rw [r.length]; exact Nat.le_refl _⟩
theorem itOk_str {W2 H2 : Hp} {M : Addr → Prop} {x : Str} : ItOk K W2 H2 M (Its x) (strD x) where
  go := fun i H hi fr => by simpa [strD, Its] using hi
  yl := fun i H v H' d Wc hd fr y ex l => by
    obtain ⟨rfl, c, hc, rfl⟩ := y
    refine ⟨Wc, PSt.refl l, ?_⟩
    have : d = .str ⟨#[c]⟩ := by
      simp only [strD, List.getElem?_map] at hd
      cases q : x.cps.toList[i]? with
      | none => rw [q] at hd; cases hd
      | some c' =>
        rw [q] at hd
        cases hd
        have q' : x.cps[i]? = some c' := by simpa using q
        rw [hc] at q'
        cases q'
        rfl
    subst this
    exact .str _
  stop := fun H fr => by simp [strD, Its]
theorem itOk_rng {W2 H2 : Hp} {M : Addr → Prop} {lo : Int} {n : Nat} : ItOk K W2 H2 M (Itr lo n) ((List.range n).map fun i => D.int (lo + (i : Nat))) where
  go := fun i H hi fr => by simpa [Itr] using hi
  yl := fun i H v H' d Wc hd fr y ex l => by
    obtain ⟨rfl, rfl⟩ := y
    refine ⟨Wc, PSt.refl l, ?_⟩
    have hi := (List.getElem?_eq_some_iff.mp hd).1
    simp at hi
    rw [List.getElem?_map, List.getElem?_range hi] at hd
    cases hd
    exact .int _
  stop := fun H fr => by simp [Itr]
theorem itOk_enum {W W2 H1 H2 : Hp} {M : Addr → Prop} {a : Addr} {xs : List D} (s : ∀ H, (∀ a o, H1 a = some o → ¬ M a → H a = some o) → Le W H ∧ ∃ vs, SqL K H a vs ∧ DrA K W vs xs) (p : PSt W H1 W2 H2) (hM : ∀ x o, H1 x = some o → H2 x = some o) : ItOk K W2 H2 M (Ite K a) (xs.mapIdx fun i d => .tup [.int (i : Nat), d]) where
  go := fun i H hi fr => by
    obtain ⟨_, vs, q, r⟩ := s H fun x o e n => fr x o (hM x o e) n
    have : i < vs.length := by rw [r.length]; simpa using hi
    exact ⟨vs, vs[i], q, List.getElem?_eq_getElem this⟩
  yl := fun i H x H' d Wc hd fr y ex l => by
    obtain ⟨_, vs, q, r⟩ := s H fun x o e n => fr x o (hM x o e) n
    obtain ⟨T, z, rfl, hT, rfl, y⟩ := y
    rw [List.getElem?_mapIdx] at hd
    cases q2 : xs[i]? with
    | none => rw [q2] at hd; cases hd
    | some d0 =>
      rw [q2] at hd
      cases hd
      obtain ⟨v, e1, e2⟩ := r.get q2
      have e3 := y vs q
      rw [e1] at e3
      cases e3
      have e4 : Dr K Wc z d0 := (e2.mono p.w).mono ex
      exact ⟨upd Wc T (.tup [.int (i : Nat), z]), PSt.froz l hT, .tup (.inl upd_same) (.cons (.int _) (.cons (e4.mono (Ex.new (l.no hT))) .nil))⟩
  stop := fun H fr => by
    obtain ⟨_, vs, q, r⟩ := s H fun x o e n => fr x o (hM x o e) n
    exact ⟨vs, q, by rw [r.length]; simp⟩
def rngD (lo hi : Int) : List D := (List.range (hi - lo).toNat).map fun i => D.int (lo + (i : Nat))
def R62 : Int := 4611686018427387904
def gRng1 : List D → Option (List D)
  | [.int j] => if -R62 ≤ j ∧ j < R62 then some (rngD 0 j) else none
  | _ => none
def gRng2 : List D → Option (List D)
  | [.int i, .int j] => if -R62 ≤ i ∧ i < R62 ∧ -R62 ≤ j ∧ j < R62 then some (rngD i j) else none
  | _ => none
def gEnum : List D → Option (List D)
  | [.lst xs] => some (xs.mapIdx fun i d => .tup [.int (i : Nat), d])
  | _ => none
end
section
variable {P : Program} {w : World} {K : PySem.W.Frag} {mg : Str → Option Value} {base : Heap} {k : Nat} {N : List Str} {sv : Sv} {X : Cx} {Wx : WX}
theorem sta_one {W H1 : Hp} {M : Addr → Prop} {v : V} {d : D} (s : StA K W H1 M [v] [d]) : ∀ H, (∀ a o, H1 a = some o → ¬ M a → H a = some o) → Le W H ∧ Top K W H v d := fun H fr => by
  obtain ⟨l, t⟩ := s H fr
  cases t with
  | cons t r => exact ⟨l, t⟩
theorem sta_self {W H1 : Hp} {M : Addr → Prop} {vs : List V} {ds : List D} (s : StA K W H1 M vs ds) : TopA K W H1 vs ds := (s H1 fun _ _ e _ => e).2
theorem sta_list {W H1 : Hp} {M : Addr → Prop} {a : Addr} {xs : List D} (s : StA K W H1 M [.ref a] [.lst xs]) : ∀ H, (∀ a o, H1 a = some o → ¬ M a → H a = some o) → Le W H ∧ ∃ vs, SqL K H a vs ∧ DrA K W vs xs := fun H fr => by
  obtain ⟨l, t⟩ := sta_one s H fr
  obtain ⟨a', vs, e, q, r⟩ := t.lst l
  cases e
  exact ⟨l, vs, q, r⟩
theorem sta_tup {W H1 : Hp} {M : Addr → Prop} {a : Addr} {xs : List D} (s : StA K W H1 M [.ref a] [.tup xs]) : ∀ H, (∀ a o, H1 a = some o → ¬ M a → H a = some o) → Le W H ∧ ∃ vs, SqT K H a vs ∧ DrA K W vs xs := fun H fr => by
  obtain ⟨l, t⟩ := sta_one s H fr
  obtain ⟨a', vs, e, q, r⟩ := t.tup
  cases e
  exact ⟨l, vs, q.sq l, r⟩
theorem pi_seq (hk : X.K = K) {tg e : Expr} {t : Tm} (he : PE X e (den K Wx t)) : PI X tg e (denI K Wx gSeq (.cons t .nil)) := by
  subst hk
  refine ⟨fun pins s σ H R I h => ?_⟩
  have h1 := den_mono (denA_cons (denI_A h)) fun v H' z => denA_nil z
  refine thn (he.run pins s σ H _ I h1) fun v s1 ⟨x, H1, I1, r1, q1⟩ => ?_
  obtain ⟨W, M, ds, xs, l, st, eg, kk⟩ := q1
  unfold gSeq at eg
  split at eg
  · cases eg
    have tp := sta_self st
    cases tp with | cons tp _ =>
    obtain ⟨a, vs, rfl, q, r⟩ := tp.lst l
    cases r1
    obtain ⟨its, rv, p, hz⟩ := I1.list q
    refine wpAny_pyIter_list p.isList ?_
    exact pi_one (tk := s1.toks) I1 _ (turn_list a _) ⟨_, Heap.get?_push_size _ rfl, rfl, rfl⟩ (kk _ W H1 (PSt.refl l) (itOk_list (sta_list st) (PSt.refl l) fun _ _ e => e))
  · cases eg
    have tp := sta_self st
    cases tp with | cons tp _ =>
    obtain ⟨a, vs, rfl, q, r⟩ := tp.tup
    cases r1
    obtain ⟨its, rv, p, hz⟩ := I1.tuple (q.sq l)
    refine wpAny_pyIter_tuple (show s1.heap.IsTuple a its.toArray from p) ?_
    exact pi_one (tk := s1.toks) I1 _ (turn_tuple a _) ⟨_, Heap.get?_push_size _ rfl, rfl, rfl⟩ (kk _ W H1 (PSt.refl l) (itOk_tup (sta_tup st) (PSt.refl l) fun _ _ e => e))
  · rename_i x1
    cases eg
    have tp := sta_self st
    cases tp with | cons tp _ =>
    have := tp.str
    subst this
    obtain ⟨t', rfl⟩ := r1
    have q := kk (Its x1) W H1 (PSt.refl l) itOk_str
    cases ha : x1.cps.all (· < 128)
    · exact wpAny_pyIter_wide ha (pi_one (tk := s1.toks) I1 _ (turn_str _ x1 t' "str_iterator" (.inr rfl)) ⟨_, Heap.get?_push_size _ rfl, rfl, rfl⟩ q)
    · exact wpAny_pyIter_ascii ha (pi_one (tk := s1.toks) I1 _ (turn_str _ x1 t' "str_ascii_iterator" (.inl rfl)) ⟨_, Heap.get?_push_size _ rfl, rfl, rfl⟩ q)
  · cases eg
theorem PI.imp {tg e : Expr} {t t' : TI} (h : PI X tg e t) (i : ∀ σ H R, t' σ H R → t σ H R) : PI X tg e t' := ⟨fun pins s σ H R I w => h.run pins s σ H R I (i σ H R w)⟩
theorem denA_mono {as : Ta} {σ : L2.St} {H : Hp} {Q Q' : List V → Hp → Prop} (h : denA K Wx as σ H Q) (i : ∀ v H', Q v H' → Q' v H') : denA K Wx as σ H Q' := by
  obtain ⟨E, W, Γ, R, h⟩ := h
  exact ⟨E, W, Γ, R, h.imp fun l c' R' S' e' z v V => i _ _ (z v V)⟩
theorem pi_rng1 {tg a : Expr} {as : Ta} {p pos : Pos} (hg : Gl X "range") (hm : X.mg "range" = none) (hs : notStar a = true) (ha : PEs X K Wx [a] as) : PI X tg (.Call (.Name "range" p) [a] [] pos) (denI K Wx gRng1 as) := by
  refine PI.imp (pi_range1 hg hm (ha.pa (by simp [hs])) (by rw [star_cons hs]; rfl)) fun σ H R h => denA_mono (denI_A h) fun vs H1 z => ?_
  obtain ⟨W, M, ds, xs, l, st, eg, kk⟩ := z
  have tp := sta_self st
  unfold gRng1 at eg
  split at eg
  · split at eg
    · rename_i j hj
      cases eg
      cases tp with | cons tp t2 =>
      cases t2
      have := tp.int
      subst this
      refine ⟨j, rfl, by simp only [R62] at hj; omega, by simp only [R62] at hj; omega, kk _ W H1 (PSt.refl l) ?_⟩
      have z := itOk_rng (K := K) (W2 := W) (H2 := H1) (M := M) (lo := 0) (n := j.toNat)
      simpa [rngD] using z
    · cases eg
  · cases eg
theorem pi_rng2 {tg a b : Expr} {as : Ta} {p pos : Pos} (hg : Gl X "range") (hm : X.mg "range" = none) (hs : notStar a = true) (hs2 : notStar b = true) (ha : PEs X K Wx [a, b] as) : PI X tg (.Call (.Name "range" p) [a, b] [] pos) (denI K Wx gRng2 as) := by
  refine PI.imp (pi_range2 hg hm (ha.pa (by simp [hs, hs2])) (by rw [star_cons hs, star_cons hs2]; rfl) (by rw [star_cons hs2]; rfl)) fun σ H R h => denA_mono (denI_A h) fun vs H1 z => ?_
  obtain ⟨W, M, ds, xs, l, st, eg, kk⟩ := z
  have tp := sta_self st
  unfold gRng2 at eg
  split at eg
  · split at eg
    · rename_i i j hj
      cases eg
      cases tp with | cons tp t2 =>
      cases t2 with | cons t2 t3 =>
      cases t3
      have := tp.int
      subst this
      have := t2.int
      subst this
      refine ⟨i, j, rfl, by simp only [R62] at hj; omega, kk _ W H1 (PSt.refl l) ?_⟩
      exact itOk_rng
    · cases eg
  · cases eg
theorem pi_enm (hk : X.K = K) {elts : List Expr} {kq : Nat} {tpos : Pos} {a : Expr} {as : Ta} {p pos : Pos} (hg : Gl X "enumerate") (hm : X.mg "enumerate" = none) (hs : notStar a = true) (ha : PEs X K Wx [a] as) : PI X (.Tuple elts kq tpos) (.Call (.Name "enumerate" p) [a] [] pos) (denI K Wx gEnum as) := by
  subst hk
  refine PI.imp (pi_enum hg hm (ha.pa (by simp [hs])) (by rw [star_cons hs]; rfl)) fun σ H R h => denA_mono (denI_A h) fun vs H1 z => ?_
  obtain ⟨W, M, ds, xs, l, st, eg, kk⟩ := z
  have tp := sta_self st
  unfold gEnum at eg
  split at eg
  · cases eg
    cases tp with | cons tp t2 =>
    cases t2
    obtain ⟨a, vs, rfl, q, r⟩ := tp.lst l
    exact ⟨a, vs, rfl, q, kk _ W H1 (PSt.refl l) (itOk_enum (sta_list st) (PSt.refl l) fun _ _ e => e)⟩
  · cases eg
end
end MP

end
-- MPI
section
/-! MPI: the tables of built-ins. -/
namespace MP
open PySem L2 PySem.Spec PyProof.Rows
def pNeg : List D → Option Ou
  | [.int i] => some (.dat (.int (-i)))
  | _ => none
def pIx : List D → Option Ou
  | [.lst xs, .int i] => (atI xs i).map .dat
  | [.tup xs, .int i] => (atI xs i).map .dat
  | [.str x, .int i] => if x.length ≤ LIM then (atI x.cps.toList i).map (fun c => .dat (.str ⟨#[c]⟩)) else none
  | _ => none
def cutD (xs : List D) (lo hi : Option Int) : List D := (xs.drop (HT.sIx xs.length 0 lo)).take (HT.sIx xs.length xs.length hi - HT.sIx xs.length 0 lo)
def pCut (lo hi : Option Int) : D → Option Ou
  | .lst xs => some (.new (.lst (cutD xs lo hi)))
  | .tup xs => some (.dat (.tup (cutD xs lo hi)))
  | .str x => if x.length ≤ LIM then some (.dat (.str (cutS x lo hi))) else none
  | _ => none
def pSl : Bool → Bool → List D → Option Ou
  | false, false, [d] => pCut none none d
  | true, false, [d, .int i] => pCut (some i) none d
  | false, true, [d, .int j] => pCut none (some j) d
  | true, true, [d, .int i, .int j] => pCut (some i) (some j) d
  | _, _, _ => none
def tyN : D → String
  | .non => "NoneType"
  | .bl _ => "bool"
  | .int _ => "int"
  | .str _ => "str"
  | .tup _ => "tuple"
  | .lst _ => "list"
  | .dct _ _ => "dict"
  | .obj _ _ _ => "object"
def tyL : List String := ["int", "str", "bool", "tuple", "list", "dict"]
def isiB (a b : String) : Bool := a == b || (a == "bool" && b == "int")
def isObjD : D → Bool
  | .obj _ _ _ => true
  | _ => false
def pIsi (t : String) : List D → Option Ou
  | [d] => if isObjD d then none else some (.dat (.bl (isiB (tyN d) t)))
  | _ => none
def dTup (ds : List D) : Option Ou := if ds.length ≤ LIM then some (.dat (.tup ds)) else none
def dLst (ds : List D) : Option Ou := if ds.length ≤ LIM then some (.new (.lst ds)) else none
def dDct : List D → Option Ou
  | [] => some (.new (.dct [] []))
  | _ => none
def isL : D → Bool
  | .lst _ => true
  | _ => false
def mApp : D → List D → Option (D × Ou)
  | .lst xs, [d] => if xs.length < LIM then some (.lst (xs ++ [d]), .dat .non) else none
  | _, _ => none
def stL : D → D → D → Option D
  | .lst xs, .int i, v => (ixN xs.length i).map fun j => .lst (xs.set j v)
  | _, _, _ => none
theorem isi_tab : ∀ a ∈ ["NoneType", "bool", "int", "str", "tuple", "list", "dict"], ∀ b ∈ tyL, kitB a b = some (isiB a b) := by decide +kernel
section
variable {P : Program} {w : World} {K : PySem.W.Frag} {mg : Str → Option Value} {base : Heap} {k : Nat} {N : List Str} {sv : Sv} {X : Cx} {Wx : WX}
theorem atI_map {vs : List V} {ds : List D} {i : Int} {d : D} {W : Hp} (r : DrA K W vs ds) (h : atI ds i = some d) : ∃ v, atI vs i = some v ∧ Dr K W v d := by
  unfold atI at h ⊢
  rw [r.length]
  cases q : ixN ds.length i with
  | none => rw [q] at h; cases h
  | some j =>
    rw [q] at h
    exact r.get h
theorem DrA.cut {vs : List V} {ds : List D} {W : Hp} (lo hi : Option Int) (r : DrA K W vs ds) : DrA K W (cutV vs lo hi) (cutD ds lo hi) := by
  unfold cutV cutD
  rw [r.length]
  exact (r.drop _).take _
theorem u_neg : UnR X (unaryOp .USub) (fun x => rP K pNeg [x]) := by
  intro pins s σ H x v Q I rx h
  obtain ⟨W, ds, o, l, tp, e, k⟩ := h
  unfold pNeg at e
  split at e
  · cases tp with | cons t tp =>
    cases tp
    cases e
    have := t.int
    subst this
    exact un_neg pins s σ H _ v Q I rx ⟨_, rfl, k _ W H (PSt.refl l) (.dat (.int _))⟩
  · cases e
theorem x_ix (hk : X.K = K) : IxR X (fun x y => rP K pIx [x, y]) := by
  subst hk
  intro value slice pins s σ H x y v u Q I rx ry h hs
  obtain ⟨W, ds, o, l, tp, e, k⟩ := h
  refine ix_seq value slice pins s σ H x y v u Q I rx ry ?_ hs
  unfold pIx at e
  split at e
  · cases tp with | cons t tp =>
    cases tp with | cons t2 tp =>
    cases tp
    rename_i xs i
    cases q : atI xs i with
    | none => rw [q] at e; cases e
    | some d =>
      rw [q] at e
      cases e
      have := t2.int
      subst this
      obtain ⟨a, vs, rfl, h1, r⟩ := t.lst l
      obtain ⟨z, e1, e2⟩ := atI_map r q
      exact .inl ⟨a, vs, i, z, rfl, rfl, h1, e1, k _ W H (PSt.refl l) (.dat e2)⟩
  · cases tp with | cons t tp =>
    cases tp with | cons t2 tp =>
    cases tp
    rename_i xs i
    cases q : atI xs i with
    | none => rw [q] at e; cases e
    | some d =>
      rw [q] at e
      cases e
      have := t2.int
      subst this
      obtain ⟨a, vs, rfl, h1, r⟩ := t.tup
      obtain ⟨z, e1, e2⟩ := atI_map r q
      exact .inr (.inl ⟨a, vs, i, z, rfl, rfl, h1.sq l, e1, k _ W H (PSt.refl l) (.dat e2)⟩)
  · cases tp with | cons t tp =>
    cases tp with | cons t2 tp =>
    cases tp
    rename_i x1 i
    split at e
    rotate_left
    · cases e
    rename_i hl
    cases q : atI x1.cps.toList i with
    | none => rw [q] at e; cases e
    | some d =>
      rw [q] at e
      cases e
      have := t2.int
      subst this
      have := t.str
      subst this
      exact .inr (.inr ⟨_, i, d, rfl, rfl, lim_le hl, q, k _ W H (PSt.refl l) (.dat (.str _))⟩)
  · cases e
def rSlAll (K : PySem.W.Frag) : V → Option Int → Option Int → Hp → VK → Prop := fun x lo hi H Q => (rSlL K x lo hi H Q ∨ rSlA K x lo hi H Q) ∨ rSlS x lo hi H Q
theorem sl_all : SlR X (rSlAll X.K) := (sl_list.or sl_tupA).or sl_str
theorem cut_ok {W H : Hp} {x : V} {d : D} {lo hi : Option Int} {o : Ou} {Q : VK} (l : Le W H) (t : Top K W H x d) (e : pCut lo hi d = some o) (k : ∀ v W' H', PSt W H W' H' → ORel K H W' H' v o → Q v H') : rSlAll K x lo hi H Q := by
  unfold pCut at e
  split at e
  · cases e
    obtain ⟨a, vs, rfl, h1, r⟩ := t.lst l
    refine .inl (.inl ⟨a, vs, rfl, h1, fun p hp => ?_⟩)
    obtain ⟨q1, q2⟩ := orel_lst l (r.cut lo hi) hp
    exact k _ _ _ q1 q2
  · rename_i xs
    cases e
    obtain ⟨a, vs, rfl, h1, r⟩ := t.tup
    refine .inl (.inr ⟨a, vs, rfl, h1.sq l, fun z => ?_, fun z p hp => ?_⟩)
    · have e2 : cutD xs lo hi = xs := by
        rw [r.length] at z
        unfold cutD
        rw [z.1, z.2, List.drop_zero, Nat.sub_zero, List.take_length]
      exact k _ W H (PSt.refl l) (.dat (by rw [e2]; exact .tup h1 r))
    · obtain ⟨q1, q2⟩ := orel_tup l (r.cut lo hi) hp
      exact k _ _ _ q1 q2
  · split at e
    · rename_i hl
      cases e
      have := t.str
      subst this
      exact .inr ⟨_, rfl, lim_le hl, k _ W H (PSt.refl l) (.dat (.str _))⟩
    · cases e
  · cases e
theorem tyD {pins : List (Addr × Obj)} {σ : L2.St} {H W : Hp} {s : Shared} {x : V} {u : Value} {d : D} (I : Inv X pins σ H s) (hk : X.K = K) (l : Le W H) (t : Top K W H x d) (no : isObjD d = false) (rx : RelV x u) :
    ∃ P : Heap → Prop, PySem.W.KitX X.K u (.type (tyN d)) P ∧ P s.heap ∧ u ≠ .builtin "__main__.__loader__#opaque" := by
  subst hk
  have kl : ∀ {a xs}, SqL X.K H a xs → ∃ P : Heap → Prop, PySem.W.KitX X.K (.ref a) (.type "list") P ∧ P s.heap ∧ Value.ref a ≠ .builtin "__main__.__loader__#opaque" := fun {a xs} h => by
    obtain ⟨its, r, ⟨o, n, h1, h2, _⟩, _⟩ := I.list h
    exact ⟨_, PySem.W.kitx_list, ⟨o, h1, h2⟩, fun z => nomatch z⟩
  have kd : ∀ {a kvs}, Rd H a (.dK kvs) → ∃ P : Heap → Prop, PySem.W.KitX X.K (.ref a) (.type "dict") P ∧ P s.heap ∧ Value.ref a ≠ .builtin "__main__.__loader__#opaque" := fun {a kvs} h => by
    obtain ⟨_, _, vs, _, o, es, ep, h1, h2, _⟩ := (show ObjOk X.prog X.w H s.heap a (.dK kvs) from h.ok I.hok)
    exact ⟨_, PySem.W.kitx_dict, ⟨o, h1, h2.1⟩, fun z => nomatch z⟩
  have kt : ∀ {a kvs}, Rd H a (.dT kvs) → ∃ P : Heap → Prop, PySem.W.KitX X.K (.ref a) (.type "dict") P ∧ P s.heap ∧ Value.ref a ≠ .builtin "__main__.__loader__#opaque" := fun {a kvs} h => by
    obtain ⟨_, _, vs, _, o, es, ep, h1, h2, _⟩ := (show ObjOk X.prog X.w H s.heap a (.dT kvs) from h.ok I.hok)
    exact ⟨_, PySem.W.kitx_dict, ⟨o, h1, h2.1⟩, fun z => nomatch z⟩
  cases t with
  | dat h =>
    cases h with
    | non => cases (show u = Value.none from rx); exact ⟨_, PySem.W.kitx_none, True.intro, fun z => nomatch z⟩
    | bl y => cases (show u = Value.bool y from rx); exact ⟨_, PySem.W.kitx_bool, True.intro, fun z => nomatch z⟩
    | int i => obtain ⟨t, q⟩ := (show ∃ t, u = Value.int i t from rx); cases q; exact ⟨_, PySem.W.kitx_int, True.intro, fun z => nomatch z⟩
    | str y => obtain ⟨t, q⟩ := (show ∃ t, u = Value.str y t from rx); cases q; exact ⟨_, PySem.W.kitx_str, True.intro, fun z => nomatch z⟩
    | tup h r =>
      cases rx
      obtain ⟨its, r, ⟨o, h1, h2, _⟩, _⟩ := I.tuple (h.sq l)
      exact ⟨_, PySem.W.kitx_tuple, ⟨o, h1, h2⟩, fun z => nomatch z⟩
    | lst h r => cases rx; exact kl (h.sq l)
    | dK h r => cases rx; exact kd (l _ _ h)
    | dT h r => cases rx; exact kt (l _ _ h)
    | obj h r => cases no
  | mt h =>
    cases h with
    | lst h r => cases rx; exact kl (SqL.of h)
    | dK h r => cases rx; exact kd (.inl h)
    | dT h r => cases rx; exact kt (.inl h)
    | obj h r => cases no
theorem tyN_mem {d : D} (no : isObjD d = false) : tyN d ∈ ["NoneType", "bool", "int", "str", "tuple", "list", "dict"] := by
  cases d <;> first | (simp [tyN]; done) | cases no
/-- isinstance(x, T) -/
theorem c_isi (hk : X.K = K) {t : String} (ht : t ∈ tyL) : CallR X (.builtin "isinstance") (fun xs H Q => ∃ x, xs = [x, .ty t] ∧ rP K (pIsi t) [x] H Q) := by
  intro pins s σ H xs us Q I r h
  obtain ⟨x, rfl, W, ds, o, l, tp, e, k⟩ := h
  obtain ⟨u1, u2, rfl, r1, r2⟩ := vals2 r
  cases r2
  cases tp with | cons tp t2 =>
  cases t2
  rename_i d
  unfold pIsi at e
  dsimp only at e
  split at e
  · cases e
  rename_i no
  have no' : isObjD d = false := by simpa using no
  cases e
  obtain ⟨P, Z, p, hx⟩ := tyD I hk l tp no' r1
  exact PySem.W.kia_one Z I.kIn p (kit_ty (isi_tab _ (tyN_mem no') _ ht)) hx fun tk => ⟨.bl _, H, I.tok tk, rfl, k _ W H (PSt.refl l) (.dat (.bl _))⟩
theorem MSt.lst {W H : Hp} {a : Addr} {vs : List V} {ds : List D} {o : HO} (hw : W a = none) (l : Le W H) (ha : H a = some o) (r : DrA K W vs ds) : MSt K W H a (.lst ds) W (upd H a (.lst vs)) :=
  ⟨Ex.refl _, fun b u e => by
    have : b ≠ a := fun z => by rw [z, hw] at e; cases e
    rcases l b u e with q | ⟨ob, q⟩
    · exact .inl (by rw [upd_ne this]; exact q)
    · exact .inr ⟨ob, by rw [upd_ne this]; exact q⟩, fun b u e n => by rw [upd_ne n]; exact e, .lst upd_same r, hw, fun b e => .inl e⟩
theorem m_app : MtM X "list.append" (rM K mApp) := by
  intro pins s σ H x xs v us Q I rx rv h
  obtain ⟨a, W, d, ds, d', o, rfl, hw, l, m, r, e, k⟩ := h
  refine mt_append pins s σ H _ xs v us Q I rx rv ?_
  unfold mApp at e
  split at e
  · split at e
    · rename_i hl
      cases e
      cases m with | lst hm rm =>
      cases r with | cons r1 r2 =>
      cases r2
      refine ⟨a, _, _, rfl, rfl, hm, lim_lt (by rw [rm.length]; exact hl), ?_⟩
      exact k _ W _ (MSt.lst hw l hm (rm.append (.cons r1 .nil))) (.dat .non)
    · cases e
  · cases e
theorem s_lst : PSet X (rSt K stL) := by
  intro pins s σ H o i v ov iv u Q I ro ri rv h
  obtain ⟨a, W, d, dk, dv, d', rfl, hw, l, m, r1, r2, e, k⟩ := h
  unfold stL at e
  split at e
  · rename_i xs ii
    cases q : ixN xs.length ii with
    | none => rw [q] at e; cases e
    | some j =>
      rw [q] at e
      cases e
      cases m with | lst hm rm =>
      cases r1
      refine set_list pins s σ H _ _ v ov iv u Q I ro ri rv ⟨a, _, ii, j, rfl, rfl, hm, by rw [rm.length]; exact q, ?_⟩
      exact k W _ (MSt.lst hw l hm (rm.set r2 j))
  · cases e
/-! the tables -/
def sBlt (x : Str) : Option (List D → Option Ou) :=
  if x = "len" then some pLen else if x = "abs" then some pAbs else if x = "int" then some pInt else if x = "max" then some pMax else if x = "min" then some pMin
  else if x = "sum" then some pSum else if x = "all" then some pAll else if x = "any" then some pAny else if x = "tuple" then some pTup else if x = "list" then some pLst
  else if x = "sorted" then some pSrt else if x = "repr" then some pRepr else none
def tyOfName (x : Str) : Option String := if x = "int" then some "int" else if x = "str" then some "str" else if x = "bool" then some "bool" else if x = "tuple" then some "tuple" else if x = "list" then some "list" else if x = "dict" then some "dict" else none
def pIx? : Expr → Bool
  | .Slice _ _ _ _ => false
  | _ => true
def pIdI : List D → Option Ou
  | [.int i] => some (.dat (.int i))
  | _ => none
def wrap2 : Ta → Ta
  | .cons a (.cons b (.cons c .nil)) => .cons a (.cons (.prim pIdI (.cons b .nil)) (.cons c .nil))
  | as => as
def spec0 (sc : Scope) (e : Expr) : Option ((Ta → Tm) × List Expr) := match e with
  | .BinOp a op b _ => some (.prim (pBin op), [a, b])
  | .UnaryOp .USub a _ => some (.prim pNeg, [a])
  | .Subscript a (.Slice lo hi none _) _ => some (fun as => .prim (pSl lo.isSome hi.isSome) (wrap2 as), a :: (lo.toList ++ hi.toList))
  | .Subscript a b _ => if pIx? b then some (.prim pIx, [a, b]) else none
  | .Call (.Name x _) [e, .Name t pt] [] _ => if x = "isinstance" then (if glB sc x && glB sc t && notStar e then (tyOfName t).map fun t => (.prim (pIsi t), [e]) else none) else if glB sc x && notStar e then (sBlt x).map fun f => (.prim f, [e, .Name t pt]) else none
  | .Call (.Name x _) (e :: es) [] _ => if glB sc x && (e :: es).all notStar then (sBlt x).map fun f => (.prim f, e :: es) else none
  | .Call (.Name x _) [e] [⟨some kx, .Constant (.bool true) _ _, _⟩] _ => if x = "sorted" ∧ kx = "reverse" then (if glB sc x && notStar e then some (.prim pSrtR, [e]) else none) else none
  | .Tuple es _ _ => if es.all notStar then some (.mk dTup, es) else none
  | .List es _ => if es.all notStar then some (.mk dLst, es) else none
  | .Dict [] [] _ => some (.mk dDct, [])
  | _ => none
def isp0 (sc : Scope) (tg e : Expr) : Option ((List D → Option (List D)) × List Expr) := match e with
  | .Call (.Name x _) [a] [] _ => if x = "range" then (if glB sc x && notStar a then some (gRng1, [a]) else none)
    else if x = "enumerate" then (match tg with
      | .Tuple _ _ _ => if glB sc x && notStar a then some (gEnum, [a]) else none
      | _ => none)
    else some (gSeq, [e])
  | .Call (.Name x _) [a, b] [] _ => if x = "range" then (if glB sc x && notStar a && notStar b then some (gRng2, [a, b]) else none) else some (gSeq, [e])
  | .Call (.Name x _) _ _ _ => if x = "range" ∨ x = "enumerate" ∨ x = "zip" ∨ x = "reversed" ∨ x = "set" then none else some (gSeq, [e])
  | e => some (gSeq, [e])
def msp0 (_ : Scope) (e : Expr) : Option (Str × (D → Bool) × (D → List D → Option (D × Ou)) × List Expr) := match e with
  | .Call (.Attribute (.Name x _) m ap) [a] [] cp => if m = "append" ∧ notStar a = true ∧ (ap.endLine == cp.line) = true then some (x, isL, mApp, [a]) else none
  | _ => none
end
end MP

end
-- MPJ
section
/-! MPJ: the tables hold. -/
namespace MP
open PySem L2 PySem.Spec PyProof.Rows
def bnames : List Str := ["len", "abs", "int", "max", "min", "sum", "all", "any", "tuple", "list", "sorted", "repr", "isinstance", "range", "enumerate", "str", "bool", "dict"]
section
variable {P : Program} {w : World} {K : PySem.W.Frag} {mg : Str → Option Value} {base : Heap} {k : Nat} {N : List Str} {sv : Sv} {X : Cx} {Wx : WX}
theorem b_fun {id : String} {f : List D → Option Ou} (hc : CallR X (.builtin id) (rP K f)) {x : Str} (hg : Gl X x) (hm : X.mg x = none) (hv : bootBuiltins x = some (.builtin id)) (hn : x ≠ "__name__") (hd : (x == ("__debug__" : Str)) = false) {e : Expr} {es : List Expr} (hs : (e :: es).all notStar = true) {as : Ta} (h : PEs X K Wx (e :: es) as) {p pos : Pos} :
    PE X (.Call (.Name x p) (e :: es) [] pos) (den K Wx (.prim f as)) := by
  have h2 : es.all notStar = true := by simp only [List.all_cons, Bool.and_eq_true] at hs; exact hs.2
  have h1 : notStar e = true := by simp only [List.all_cons, Bool.and_eq_true] at hs; exact hs.1
  exact PE.imp (pe_callB hc hg hm hv (h.pa hs) hn hd (star_cons h1) (star_any h2)) fun σ H Q h => den_prim h
theorem b_typ {T : String} {f : List D → Option Ou} (hc : CallR X (.type T) (rP K f)) {x : Str} (hg : Gl X x) (hm : X.mg x = none) (hv : bootBuiltins x = some (.type T)) (hn : x ≠ "__name__") (hd : (x == ("__debug__" : Str)) = false) {e : Expr} {es : List Expr} (hs : (e :: es).all notStar = true) {as : Ta} (h : PEs X K Wx (e :: es) as) {p pos : Pos} :
    PE X (.Call (.Name x p) (e :: es) [] pos) (den K Wx (.prim f as)) := by
  have h2 : es.all notStar = true := by simp only [List.all_cons, Bool.and_eq_true] at hs; exact hs.2
  have h1 : notStar e = true := by simp only [List.all_cons, Bool.and_eq_true] at hs; exact hs.1
  exact PE.imp (pe_callTy hc hg hm hv (h.pa hs) hn hd (star_cons h1) (star_any h2)) fun σ H Q h => den_prim h
theorem sBlt_ok (C : Cv P w K mg base k N sv X Wx) (hb : ∀ x ∈ bnames, mg x = none) {x : Str} {f : List D → Option Ou} (hf : sBlt x = some f) (hg : glB sv.sc x = true) {e : Expr} {es : List Expr} (hs : (e :: es).all notStar = true) {as : Ta} (h : PEs X K Wx (e :: es) as) {p pos : Pos} :
    PE X (.Call (.Name x p) (e :: es) [] pos) (den K Wx (.prim f as)) := by
  have hg' : Gl X x := glB_ok (by rw [C.sc]; exact hg)
  have hm : ∀ y ∈ bnames, X.mg y = none := fun y hy => by rw [C.m]; exact hb y hy
  have kk := C.kk
  unfold sBlt at hf
  split at hf
  · rename_i q; subst q; cases hf
    exact b_fun (c_len kk) hg' (hm _ (by decide +kernel)) boot_len (by decide +kernel) (by decide +kernel) hs h
  split at hf
  · rename_i q; subst q; cases hf
    exact b_fun (c_abs kk) hg' (hm _ (by decide +kernel)) boot_abs (by decide +kernel) (by decide +kernel) hs h
  split at hf
  · rename_i q; subst q; cases hf
    exact b_typ (c_int kk) hg' (hm _ (by decide +kernel)) boot_int (by decide +kernel) (by decide +kernel) hs h
  split at hf
  · rename_i q; subst q; cases hf
    exact b_fun (c_max kk C.calm) hg' (hm _ (by decide +kernel)) boot_max (by decide +kernel) (by decide +kernel) hs h
  split at hf
  · rename_i q; subst q; cases hf
    exact b_fun (c_min kk C.calm) hg' (hm _ (by decide +kernel)) boot_min (by decide +kernel) (by decide +kernel) hs h
  split at hf
  · rename_i q; subst q; cases hf
    exact b_fun (c_sum kk C.calm) hg' (hm _ (by decide +kernel)) boot_sum (by decide +kernel) (by decide +kernel) hs h
  split at hf
  · rename_i q; subst q; cases hf
    exact b_fun (c_all kk C.calm) hg' (hm _ (by decide +kernel)) boot_all (by decide +kernel) (by decide +kernel) hs h
  split at hf
  · rename_i q; subst q; cases hf
    exact b_fun (c_any kk C.calm) hg' (hm _ (by decide +kernel)) boot_any (by decide +kernel) (by decide +kernel) hs h
  split at hf
  · rename_i q; subst q; cases hf
    exact b_typ (c_tup kk) hg' (hm _ (by decide +kernel)) boot_tuple (by decide +kernel) (by decide +kernel) hs h
  split at hf
  · rename_i q; subst q; cases hf
    exact b_typ (c_lst kk) hg' (hm _ (by decide +kernel)) boot_list (by decide +kernel) (by decide +kernel) hs h
  split at hf
  · rename_i q; subst q; cases hf
    exact b_fun (c_srt kk) hg' (hm _ (by decide +kernel)) boot_sorted (by decide +kernel) (by decide +kernel) hs h
  split at hf
  · rename_i q; subst q; cases hf
    exact b_fun (c_repr kk) hg' (hm _ (by decide +kernel)) boot_repr (by decide +kernel) (by decide +kernel) hs h
  · cases hf
theorem rP_op2 {f : List D → Option Ou} {a b : Expr} {as : Ta} {r : R2} (h : PEs X K Wx [a, b] as) (go : ∀ t u, PE X a (den K Wx t) → PE X b (den K Wx u) → PE X e0 (tOp (fun x y => rP K f [x, y]) (den K Wx t) (den K Wx u))) : PE X e0 (den K Wx (.prim f as)) := by
  cases h with | cons h1 h2 =>
  cases h2 with | cons h2 h3 =>
  cases h3
  exact PE.imp (go _ _ h1 h2) fun σ H Q h => rP_op h
theorem tyOfName_ok {x : Str} {t : String} (h : tyOfName x = some t) : t ∈ tyL ∧ bootBuiltins x = some (.type t) ∧ x ∈ bnames ∧ x ≠ "__name__" ∧ (x == ("__debug__" : Str)) = false := by
  unfold tyOfName at h
  split at h
  · rename_i q; subst q; cases h; exact ⟨by decide +kernel, boot_int, by decide +kernel, by decide +kernel, by decide +kernel⟩
  split at h
  · rename_i q; subst q; cases h; exact ⟨by decide +kernel, boot_str, by decide +kernel, by decide +kernel, by decide +kernel⟩
  split at h
  · rename_i q; subst q; cases h; exact ⟨by decide +kernel, boot_bool, by decide +kernel, by decide +kernel, by decide +kernel⟩
  split at h
  · rename_i q; subst q; cases h; exact ⟨by decide +kernel, boot_tuple, by decide +kernel, by decide +kernel, by decide +kernel⟩
  split at h
  · rename_i q; subst q; cases h; exact ⟨by decide +kernel, boot_list, by decide +kernel, by decide +kernel, by decide +kernel⟩
  split at h
  · rename_i q; subst q; cases h; exact ⟨by decide +kernel, boot_dict, by decide +kernel, by decide +kernel, by decide +kernel⟩
  · cases h
theorem rP_cons {f : List D → Option Ou} {t : Tm} {r : Ta} {σ : L2.St} {H : Hp} {Q : VK} (h : den K Wx (.prim f (.cons t r)) σ H Q) : den K Wx t σ H fun x H1 => denA K Wx r σ H1 fun vs H2 => rP K f (x :: vs) H2 Q := denA_cons (den_prim h)
theorem top_cons {W H : Hp} {x : V} {vs : List V} {ds : List D} (h : TopA K W H (x :: vs) ds) : ∃ d r, ds = d :: r ∧ Top K W H x d ∧ TopA K W H vs r := by
  cases h with | cons a b => exact ⟨_, _, rfl, a, b⟩
theorem den_idI {t : Tm} {σ : L2.St} {H : Hp} {Q : VK} (h : den K Wx (.prim pIdI (.cons t .nil)) σ H Q) : den K Wx t σ H fun x H1 => ∃ i, x = .int i ∧ Q (.int i) H1 := by
  refine den_mono (rP_cons h) fun x H1 y => ?_
  obtain ⟨W, ds, o, l, tp, e, k1⟩ := denA_nil y
  obtain ⟨d, r, rfl, t1, t2⟩ := top_cons tp
  cases t2
  cases d <;> first | (simp [pIdI] at e; done) | skip
  have := t1.int
  subst this
  cases e
  exact ⟨_, rfl, k1 _ W H1 (PSt.refl l) (.dat (.int _))⟩
theorem slice_ok (C : Cv P w K mg base k N sv X Wx) {a : Expr} {lo hi : Option Expr} {p2 pos : Pos} {as : Ta} (h : PEs X K Wx (a :: (lo.toList ++ hi.toList)) as) : PE X (.Subscript a (.Slice lo hi none p2) pos) (den K Wx (.prim (pSl lo.isSome hi.isSome) (wrap2 as))) := by
  have kk := C.kk
  subst kk
  cases h with | cons h1 h2 =>
  rename_i ta ra
  cases lo with
  | none =>
    cases hi with
    | none =>
      cases h2
      refine PE.imp (pe_slice sl_all h1 po_none po_none) fun σ H Q z => ?_
      refine den_mono (rP_cons z) fun x H1 y => ?_
      obtain ⟨W, ds, o, l, tp, e, k1⟩ := denA_nil y
      obtain ⟨d, r, rfl, t1, t2⟩ := top_cons tp
      cases t2
      exact cut_ok l t1 e k1
    | some b =>
      cases h2 with | cons h2 h3 =>
      cases h3
      refine PE.imp (pe_slice sl_all h1 po_none (po_some h2)) fun σ H Q z => ?_
      refine den_mono (rP_cons z) fun x H1 y => ?_
      show den X.K Wx _ σ H1 (fun x2 H2 => ∃ i, x2 = .int i ∧ rSlAll X.K x none (some i) H2 Q)
      refine den_mono (denA_cons y) fun x2 H2 y2 => ?_
      obtain ⟨W, ds, o, l, tp, e, k1⟩ := denA_nil y2
      obtain ⟨d, r, rfl, t1, tq⟩ := top_cons tp
      obtain ⟨d2, r2, rfl, t2, t3⟩ := top_cons tq
      cases t3
      cases d2 <;> first | (simp [pSl] at e; done) | skip
      have := t2.int
      subst this
      exact ⟨_, rfl, cut_ok l t1 e k1⟩
  | some b0 =>
    cases hi with
    | none =>
      cases h2 with | cons h2 h3 =>
      cases h3
      refine PE.imp (pe_slice sl_all h1 (po_some h2) po_none) fun σ H Q z => ?_
      refine den_mono (rP_cons z) fun x H1 y => ?_
      refine den_mono (denA_cons y) fun x2 H2 y2 => ?_
      obtain ⟨W, ds, o, l, tp, e, k1⟩ := denA_nil y2
      obtain ⟨d, r, rfl, t1, tq⟩ := top_cons tp
      obtain ⟨d2, r2, rfl, t2, t3⟩ := top_cons tq
      cases t3
      cases d2 <;> first | (simp [pSl] at e; done) | skip
      have := t2.int
      subst this
      exact ⟨_, rfl, cut_ok l t1 e k1⟩
    | some b =>
      cases h2 with | cons h2 h3 =>
      cases h3 with | cons h3 h4 =>
      cases h4
      refine PE.imp (pe_slice sl_all h1 (po_some h2) (po_some h3)) fun σ H Q z => ?_
      refine den_mono (rP_cons z) fun x H1 y => ?_
      refine den_mono (den_idI (denA_cons y)) fun x2 H2 y2 => ?_
      obtain ⟨i, rfl, y2⟩ := y2
      refine ⟨i, rfl, ?_⟩
      refine den_mono (denA_cons y2) fun x3 H3 y3 => ?_
      obtain ⟨W, ds, o, l, tp, e, k1⟩ := denA_nil y3
      obtain ⟨d, r, rfl, t1, tq⟩ := top_cons tp
      obtain ⟨d2, r2, rfl, t2, tr⟩ := top_cons tq
      obtain ⟨d3, r3, rfl, t3, t4⟩ := top_cons tr
      cases t4
      cases d3 <;> first | (simp [pSl] at e; done) | skip
      cases d2 <;> first | (simp [pSl] at e; done) | skip
      have := t3.int
      subst this
      have := t2.int
      cases this
      exact ⟨_, rfl, cut_ok l t1 e k1⟩
theorem disp_ok {es : List Expr} {e0 : Expr} {as : Ta} {f : List D → Option Ou} {t : TA → TE} (hs : es.all notStar = true) (h : PEs X K Wx es as) (go : ∀ ta, PA X es ta → PE X e0 (t ta))
    (im : ∀ (ta : TA) σ H Q, ta σ H (fun vs H2 => rK K f vs H2 Q) → (∀ (Q Q' : List V → Hp → Prop), ta σ H Q → (∀ v H', Q v H' → Q' v H') → ta σ H Q') → t ta σ H Q) : PE X e0 (den K Wx (.mk f as)) :=
  PE.imp (go _ (h.pa hs)) fun σ H Q z => im _ σ H Q (den_mk z) fun Q Q' a b => denA_mono a b
end
end MP

end
-- MPK
section
/-! MPK: the tables hold, all. -/
namespace MP
open PySem L2 PySem.Spec PyProof.Rows
section
variable {P : Program} {w : World} {K : PySem.W.Frag} {mg : Str → Option Value} {base : Heap} {k : Nat} {N : List Str} {sv : Sv} {X : Cx} {Wx : WX}
theorem tup_ok {es : List Expr} {as : Ta} {kq : Nat} {pos : Pos} (hs : es.all notStar = true) (h : PEs X K Wx es as) : PE X (.Tuple es kq pos) (den K Wx (.mk dTup as)) := by
  refine PE.imp (pe_tup (h.pa hs)) fun σ H Q z => denA_mono (den_mk z) fun vs H1 y => ?_
  obtain ⟨W, ds, o, l, r, e, k1⟩ := y
  unfold dTup at e
  split at e
  · rename_i hl
    cases e
    refine ⟨lim_le (by rw [r.length]; exact hl), fun p hp => ?_⟩
    obtain ⟨q1, q2⟩ := orel_tup l r hp
    exact k1 _ _ _ q1 q2
  · cases e
theorem lst_ok {es : List Expr} {as : Ta} {pos : Pos} (hs : es.all notStar = true) (h : PEs X K Wx es as) : PE X (.List es pos) (den K Wx (.mk dLst as)) := by
  refine PE.imp (pe_lst (h.pa hs)) fun σ H Q z => denA_mono (den_mk z) fun vs H1 y => ?_
  obtain ⟨W, ds, o, l, r, e, k1⟩ := y
  unfold dLst at e
  split at e
  · rename_i hl
    cases e
    refine ⟨lim_le (by rw [r.length]; exact hl), fun p hp => ?_⟩
    obtain ⟨q1, q2⟩ := orel_lst l r hp
    exact k1 _ _ _ q1 q2
  · cases e
theorem dct_ok {pos : Pos} {as : Ta} (h : PEs X K Wx [] as) : PE X (.Dict [] [] pos) (den K Wx (.mk dDct as)) := by
  cases h
  refine PE.imp pe_dnewK fun σ H Q z => ?_
  obtain ⟨W, ds, o, l, r, e, k1⟩ := denA_nil (den_mk z)
  cases r
  cases e
  intro p hp
  refine k1 _ W _ (PSt.fresh l hp) (.new hp (l.no hp) ?_)
  exact MutAt.dK (kvs := []) upd_same .nil
theorem ixp {b : Expr} (h : pIx? b = true) : PlainIx b := fun o i => by
  cases b <;> first | rfl | (simp [pIx?] at h)
theorem rev_ok (C : Cv P w K mg base k N sv X Wx) (hb : ∀ x ∈ bnames, mg x = none) {e : Expr} {as : Ta} {p pos kp cp : Pos} {j : Nat} (hg : glB sv.sc "sorted" = true) (hs : notStar e = true) (h : PEs X K Wx [e] as) :
    PE X (.Call (.Name "sorted" p) [e] [⟨some "reverse", .Constant (.bool true) j cp, kp⟩] pos) (den K Wx (.prim pSrtR as)) := by
  have hg' : Gl X "sorted" := glB_ok (by rw [C.sc]; exact hg)
  have hm : X.mg "sorted" = none := by rw [C.m]; exact hb _ (by decide +kernel)
  have hk : PK X [⟨some "reverse", .Constant (.bool true) j cp, kp⟩] (tCons (tC (.bl true)) tNil) := pk_cons pe_bl pk_nil
  refine PE.imp (pe_callBK (c_srtR C.kk) hg' hm boot_sorted (h.pa (by simp [hs])) hk (by decide +kernel) (by decide +kernel) (by rw [star_cons hs]; rfl) (by rw [star_cons hs]; rfl)) fun σ H Q z => ?_
  exact denA_mono (den_prim z) fun vs H1 y => ⟨rfl, y⟩
theorem isi_ok (C : Cv P w K mg base k N sv X Wx) (hb : ∀ x ∈ bnames, mg x = none) {e : Expr} {as : Ta} {p pt pos : Pos} {t : Str} {T : String} (hg : glB sv.sc "isinstance" = true) (hg2 : glB sv.sc t = true) (ht : tyOfName t = some T) (hs : notStar e = true) (h : PEs X K Wx [e] as) :
    PE X (.Call (.Name "isinstance" p) [e, .Name t pt] [] pos) (den K Wx (.prim (pIsi T) as)) := by
  obtain ⟨t1, t2, t3, t4, t5⟩ := tyOfName_ok ht
  have hg' : Gl X "isinstance" := glB_ok (by rw [C.sc]; exact hg)
  have hm : X.mg "isinstance" = none := by rw [C.m]; exact hb _ (by decide +kernel)
  have hmt : X.mg t = none := by rw [C.m]; exact hb _ t3
  have hgt : Gl X t := glB_ok (by rw [C.sc]; exact hg2)
  cases h with | cons h1 h2 =>
  cases h2
  have pa : PA X [e, .Name t pt] (tCons _ (tCons (tC (.ty T)) tNil)) := pa_cons h1 (pa_cons (pe_bltn hgt hmt t2 rfl t4 t5) pa_nil rfl) (star_cons hs)
  refine PE.imp (pe_callB (c_isi C.kk t1) hg' hm boot_isinstance pa (by decide +kernel) (by decide +kernel) (star_cons hs) rfl) fun σ H Q z => ?_
  exact den_mono (rP_cons z) fun x H1 y => ⟨x, rfl, denA_nil y⟩
theorem spec0_ok (C : Cv P w K mg base k N sv X Wx) (hb : ∀ x ∈ bnames, mg x = none) {e : Expr} {f : Ta → Tm} {es : List Expr} {as : Ta} (hf : spec0 sv.sc e = some (f, es)) (h : PEs X K Wx es as) : PE X e (den K Wx (f as)) := by
  have kk := C.kk
  unfold spec0 at hf
  split at hf
  · cases hf
    exact rP_op2 (r := fun _ _ _ _ => True) h fun t u ha hb => pe_op (pBin_ok kk _) ha hb
  · cases hf
    cases h with | cons h1 h2 =>
    cases h2
    exact PE.imp (pe_un u_neg h1) fun σ H Q z => den_mono (rP_cons z) fun x H1 y => denA_nil y
  · cases hf
    exact slice_ok C h
  · split at hf
    · rename_i hp
      cases hf
      exact rP_op2 (r := fun _ _ _ _ => True) h fun t u ha hb => pe_ix (x_ix kk) ha hb (ixp hp)
    · cases hf
  · rename_i x px e1 t pt pos
    split at hf
    · rename_i hx
      subst hx
      split at hf
      · rename_i hq
        simp only [Bool.and_eq_true] at hq
        cases ht : tyOfName t with
        | none => rw [ht] at hf; cases hf
        | some T =>
          rw [ht] at hf
          cases hf
          exact isi_ok C hb hq.1.1 hq.1.2 ht hq.2 h
      · cases hf
    · split at hf
      · rename_i hq
        simp only [Bool.and_eq_true] at hq
        cases ht : sBlt x with
        | none => rw [ht] at hf; cases hf
        | some T =>
          rw [ht] at hf
          cases hf
          exact sBlt_ok C hb ht hq.1 (by rw [List.all_cons, hq.2]; rfl) h
      · cases hf
  · rename_i x px e1 es1 pos hne
    split at hf
    · rename_i hq
      simp only [Bool.and_eq_true] at hq
      cases ht : sBlt x with
      | none => rw [ht] at hf; cases hf
      | some T =>
        rw [ht] at hf
        cases hf
        exact sBlt_ok C hb ht hq.1 hq.2 h
    · cases hf
  · split at hf
    · rename_i hx
      obtain ⟨hx, hy⟩ := hx
      subst hx hy
      split at hf
      · rename_i hq
        simp only [Bool.and_eq_true] at hq
        cases hf
        exact rev_ok C hb hq.1 hq.2 h
      · cases hf
    · cases hf
  · split at hf
    · rename_i hs
      cases hf
      exact tup_ok hs h
    · cases hf
  · split at hf
    · rename_i hs
      cases hf
      exact lst_ok hs h
    · cases hf
  · cases hf
    exact dct_ok h
  · cases hf
theorem isp0_ok (C : Cv P w K mg base k N sv X Wx) (hb : ∀ x ∈ bnames, mg x = none) {tg e : Expr} {g : List D → Option (List D)} {es : List Expr} {as : Ta} (hf : isp0 sv.sc tg e = some (g, es)) (h : PEs X K Wx es as) : PI X tg e (denI K Wx g as) := by
  have sq : ∀ {as : Ta}, PEs X K Wx [e] as → PI X tg e (denI K Wx gSeq as) := fun {as} h => by
    cases h with | cons h1 h2 =>
    cases h2
    exact pi_seq C.kk h1
  have hm : ∀ y ∈ bnames, X.mg y = none := fun y hy => by rw [C.m]; exact hb y hy
  unfold isp0 at hf
  split at hf
  · rename_i x px a pos
    split at hf
    · rename_i hx
      subst hx
      split at hf
      · rename_i hq
        simp only [Bool.and_eq_true] at hq
        cases hf
        exact pi_rng1 (glB_ok (by rw [C.sc]; exact hq.1)) (hm _ (by decide +kernel)) hq.2 h
      · cases hf
    · split at hf
      · rename_i hx
        subst hx
        split at hf
        · split at hf
          · rename_i hq
            simp only [Bool.and_eq_true] at hq
            cases hf
            exact pi_enm C.kk (glB_ok (by rw [C.sc]; exact hq.1)) (hm _ (by decide +kernel)) hq.2 h
          · cases hf
        · cases hf
      · cases hf
        exact sq h
  · rename_i x px a b pos
    split at hf
    · rename_i hx
      subst hx
      split at hf
      · rename_i hq
        simp only [Bool.and_eq_true] at hq
        cases hf
        exact pi_rng2 (glB_ok (by rw [C.sc]; exact hq.1.1)) (hm _ (by decide +kernel)) hq.1.2 hq.2 h
      · cases hf
    · cases hf
      exact sq h
  · split at hf
    · cases hf
    · cases hf
      exact sq h
  · cases hf
    exact sq h
theorem msp0_ok (C : Cv P w K mg base k N sv X Wx) {e : Expr} {x : Str} {kd : D → Bool} {f : D → List D → Option (D × Ou)} {es : List Expr} {as : Ta} {i : Nat} (hf : msp0 sv.sc e = some (x, kd, f, es)) (hi : N[i]? = some x) (hv : Vis X.env.scope x) (hn : nmB x = true) (h : PEs X K Wx es as) : PE X e (den K Wx (.mth kd f i as)) := by
  have kk := C.kk
  subst kk
  obtain ⟨n1, n2⟩ := nmB_ok hn
  unfold msp0 at hf
  split at hf
  · rename_i y py m ap a cp
    split at hf
    · rename_i hq
      obtain ⟨h1, h2, h3⟩ := hq
      subst h1
      cases hf
      have pv : PE X (.Name x py) (tVar i) := pe_var (by rw [C.n]; exact hi) hv n1 n2
      refine PE.imp (pe_bm (PySem.F.plainAttrs_list) PySem.F.slot_list_append (by rfl) (m_app (K := X.K)) pv (h.pa (by simp [h2])) rfl (by rw [star_cons h2]; rfl) h3 (star_cons h2) rfl) fun σ H Q z => ?_
      obtain ⟨b, W, d, e1, e2, e3, e4⟩ := den_mth z
      refine ⟨.ref b, e1, ?_, e4⟩
      cases e2 with
      | lst hm r => exact .inl ⟨rfl, _, SqL.of hm⟩
      | _ => cases e3
    · cases hf
  · cases hf
/-- the tables of a program without classes -/
def ct0 (N : List Str) (fns : List (Str × Fn)) (con : List (Str × D)) : Ct := ⟨N, fns, con, pCmp, spec0, isp0, msp0, stL⟩
theorem tbl0 {fns : List (Str × Fn)} {con : List (Str × D)} (hb : ∀ x ∈ bnames, mg x = none)
    (hf : ∀ x f, fns.lookup x = some f → ∃ ad fd ps, mg x = some (.ref ad) ∧ PySem.W.keepIn K (.ref ad) = true ∧ Binds K fd ps [] ∧ FnOk P w K mg base (L2.CX P w) k ad fd ps (spF K f))
    (hc : ∀ x d, con.lookup x = some d → ∃ v u, mg x = some u ∧ RelV v u ∧ ∀ W, Dr K W v d) : Tbl P w K mg base k (ct0 N fns con) where
  fns := hf
  con := hc
  cmp := fun C o => pCmp_ok C o
  spec := fun {sv X Wx} C {e f es as} hf h => spec0_ok C hb hf h
  isp := fun {sv X Wx} C {tg e g es as} hf h => isp0_ok C hb hf h
  msp := fun {sv X Wx} C {e x kd f es as i} hf hi hv hn h => msp0_ok C hf hi hv hn h
  sst := fun C => by
    have kk := C.kk
    subst kk
    exact s_lst
end
end MP

end
-- MPL
section
/-! MPL: a law's end. -/
namespace MP
open PySem L2
theorem fn_stuck {P : Program} {w : World} {K : PySem.W.Frag} {mg : Str → Option Value} {base : Heap} {CX : CXT} {k : Nat} {f : Addr} {fd : FuncData} {ps : List Str} {io : List Bool} : FnOk P w K mg base CX k f fd ps (spF K ⟨io, fun _ => .stuck⟩) := by
  refine ⟨fun vs H Q E h => ?_, fun A outer s H args us vs Q E _ _ _ _ h => ?_⟩
  · obtain ⟨_, _, _, _, _, h⟩ := h
    exact h.elim
  · obtain ⟨_, _, _, _, _, h⟩ := h
    exact h.elim
theorem lookup_mem {α : Type} : ∀ {l : List (Str × α)} {x : Str} {f : α}, l.lookup x = some f → (x, f) ∈ l
  | [], _, _, h => by cases h
  | (y, g) :: r, x, f, h => by
    rw [List.lookup_cons] at h
    cases q : x == y with
    | true =>
      rw [q] at h
      cases h
      rw [eq_of_beq q]
      exact List.mem_cons_self
    | false =>
      rw [q] at h
      exact List.mem_cons_of_mem _ (lookup_mem h)
/-- the script is a list of numbers; the law's own function says True -/
theorem law_sp {K : PySem.W.Frag} {F : List D → FR} {n : Nat} (h : ∀ ns : List Int, ns.length ≤ n → F [.lst (ns.map D.int)] = .ok (.dat (.bl true)) []) (H : Hp) (a : Addr) (ns : List Int) (hl : ns.length ≤ n) (hS : SqL K H a (ns.map V.int)) :
    spF K ⟨[false], F⟩ [.ref a] H (fun v _ => v = .bl true) fun _ _ _ => False := by
  have fin : ∀ {W : Hp}, Le W H → LstAt K W a (ns.map V.int) → spF K ⟨[false], F⟩ [.ref a] H (fun v _ => v = .bl true) fun _ _ _ => False := fun {W} l q => by
    refine ⟨W, [.lst (ns.map D.int)], l, .dat (.lst q DrA.ints) .nil, List.nodup_nil, ?_⟩
    show (match F [.lst (ns.map D.int)] with
      | .ok o ios => _
      | .exn x ios => _
      | .stuck => False)
    rw [h ns hl]
    intro v W' H' _ _ o
    cases o with
    | dat d => cases d; rfl
  rcases hS with q | q
  · refine fin (W := fun x => if x = a then some (.lst (ns.map V.int)) else none) (fun x o e => ?_) (.inl (if_pos rfl))
    dsimp only at e
    split at e
    · rename_i z
      subst z
      cases e
      exact q
    · cases e
  · exact fin (W := fun _ => none) (fun x o e => by cases e) (.inr q)
def CXe : CXT := fun outer H s E e s' => ∃ P w, L2.CX P w outer H s E e s'
theorem fn_cx {P : Program} {w : World} {K : PySem.W.Frag} {mg : Str → Option Value} {base : Heap} {k : Nat} {f : Addr} {fd : FuncData} {ps : List Str} {sp : Sp} (F : FnOk P w K mg base (L2.CX P w) k f fd ps sp) : FnOk P w K mg base CXe k f fd ps sp :=
  ⟨F.len, fun A outer s H args us vs Q E hr he hb hv hs => codeAny_mono (F.run A outer s H args us vs Q E hr he hb hv hs) fun r s' h => by
    cases r with
    | ok a => cases a <;> exact h
    | error e => exact ⟨P, w, h⟩⟩
theorem cxe_no (H : Hp) (s : Shared) (e : Value) (s' : Shared) (h : CXe [] H s (fun _ _ _ => False) e s') : False := by
  obtain ⟨P, w, h⟩ := h
  obtain ⟨a, B, H', cls, d, _, _, _, _, _, _, _, z⟩ := h
  exact z
abbrev Pr (P : Program) (w : World) (K : PySem.W.Frag) (mg : Str → Option Value) (base : Heap) (k : Nat) (p : Str × Fn) : Prop := ∃ ad fd ps, mg p.1 = some (.ref ad) ∧ PySem.W.keepIn K (.ref ad) = true ∧ Binds K fd ps [] ∧ FnOk P w K mg base (L2.CX P w) k ad fd ps (spF K p.2)
abbrev Pc (K : PySem.W.Frag) (mg : Str → Option Value) (p : Str × D) : Prop := ∃ v u, mg p.1 = some u ∧ RelV v u ∧ ∀ W, Dr K W v p.2
section
variable {K : PySem.W.Frag} {h : Heap} {mg : Str → Option Value}
theorem pc_int (X : K.In h) (G : h.Ns mainGlobals mg) {x : Str} {i : Int} (c : (He.Fa.int x i).ok K = true) : Pc K mg (x, .int i) := by
  obtain ⟨t, e⟩ := He.int_ok X G c
  exact ⟨.int i, _, e, ⟨t, rfl⟩, fun W => .int i⟩
theorem pc_str (X : K.In h) (G : h.Ns mainGlobals mg) {x z : Str} (c : (He.Fa.str x z).ok K = true) : Pc K mg (x, .str z) := by
  obtain ⟨t, e⟩ := He.str_ok X G c
  exact ⟨.str z, _, e, ⟨t, rfl⟩, fun W => .str z⟩
end
theorem tblP {P : Program} {w : World} {K : PySem.W.Frag} {mg : Str → Option Value} {base : Heap} {k : Nat} {N : List Str} {fns : List (Str × Fn)} {con : List (Str × D)} (hb : ∀ x ∈ bnames, mg x = none) (hf : ∀ p ∈ fns, Pr P w K mg base k p) (hc : ∀ p ∈ con, Pc K mg p) : Tbl P w K mg base k (ct0 N fns con) :=
  tbl0 hb (fun x f e => hf (x, f) (lookup_mem e)) fun x d e => hc (x, d) (lookup_mem e)
end MP

end
-- MPM
section
/-! MPM: plain lemmas about the evaluator. -/
namespace MP
open PySem L2
/-- a comprehension without changes -/
theorem lc_pure {ec ee : List Slot → Rs Vl} {tg : Tg} {own : List Nat} {c : D → Bool} {f : D → D} {Γ : List Slot} : ∀ {xs : List D} {acc : List D}, (∀ x ∈ xs, ∃ Γ1, bnd tg x Γ = some Γ1 ∧ ec Γ1 = .ok (.dat (.bl (c x))) Γ1 ∧ (c x = true → ee Γ1 = .ok (.dat (f x)) Γ1) ∧ wipeG own Γ1 = Γ) →
    lcLoop ec ee tg own xs acc Γ = .ok (acc ++ (xs.filter c).map f) Γ
  | [], acc, _ => by simp [lcLoop]
  | x :: xs, acc, h => by
    obtain ⟨Γ1, h1, h2, h3, h4⟩ := h x List.mem_cons_self
    have ih := fun acc => lc_pure (xs := xs) (acc := acc) fun y hy => h y (List.mem_cons_of_mem _ hy)
    unfold lcLoop
    rw [h1]
    dsimp only
    rw [h2]
    cases q : c x with
    | true =>
      simp only [Rs.nox, Rs.bind, h3 q, esc, h4]
      rw [ih, List.filter_cons_of_pos q]
      simp
    | false =>
      simp only [Rs.nox, Rs.bind, h4]
      rw [ih, List.filter_cons_of_neg (by rw [q]; decide)]
theorem lc_map {ec ee : List Slot → Rs Vl} {tg : Tg} {own : List Nat} {f : D → D} {Γ : List Slot} {xs : List D} (h : ∀ x ∈ xs, ∃ Γ1, bnd tg x Γ = some Γ1 ∧ ec Γ1 = .ok (.dat (.bl true)) Γ1 ∧ ee Γ1 = .ok (.dat (f x)) Γ1 ∧ wipeG own Γ1 = Γ) :
    lcLoop ec ee tg own xs [] Γ = .ok (xs.map f) Γ := by
  rw [lc_pure (c := fun _ => true) (f := f) fun x hx => by
    obtain ⟨Γ1, h1, h2, h3, h4⟩ := h x hx
    exact ⟨Γ1, h1, h2, fun _ => h3, h4⟩]
  rw [List.filter_eq_self.mpr fun _ _ => rfl, List.nil_append]
/-- a comprehension whose element changes the state -/
theorem lc_inv {ec ee : List Slot → Rs Vl} {tg : Tg} {own : List Nat} (I : List Slot → Prop) (Pd : D → Prop) : ∀ {xs : List D} {acc : List D} {Γ : List Slot}, (∀ x ∈ xs, ∀ Γ, I Γ → ∃ Γ1 l Γ2 d Γ3, bnd tg x Γ = some Γ1 ∧ ec Γ1 = .ok (.dat (.bl true)) Γ1 ∧ ee Γ1 = .ok l Γ2 ∧ esc l Γ2 = .ok d Γ3 ∧ Pd d ∧ I (wipeG own Γ3)) → I Γ → (∀ d ∈ acc, Pd d) →
    ∃ ds Γ', lcLoop ec ee tg own xs acc Γ = .ok ds Γ' ∧ I Γ' ∧ (∀ d ∈ ds, Pd d) ∧ ds.length = acc.length + xs.length
  | [], acc, Γ, _, hI, ha => ⟨acc, Γ, by simp [lcLoop], hI, ha, by simp⟩
  | x :: xs, acc, Γ, h, hI, ha => by
    obtain ⟨Γ1, l, Γ2, d, Γ3, h1, h2, h3, h4, h5, h6⟩ := h x List.mem_cons_self Γ hI
    obtain ⟨ds, Γ', e1, e2, e3, e4⟩ := lc_inv I Pd (xs := xs) (acc := acc ++ [d]) (fun y hy => h y (List.mem_cons_of_mem _ hy)) h6 (fun y hy => by
      rcases List.mem_append.mp hy with z | z
      · exact ha y z
      · rw [List.mem_singleton.mp z]; exact h5)
    refine ⟨ds, Γ', ?_, e2, e3, by rw [e4]; simp; omega⟩
    unfold lcLoop
    rw [h1]
    dsimp only
    rw [h2]
    simp only [Rs.nox, Rs.bind, h3, h4]
    exact e1
/-- a loop that never leaves early -/
theorem for_inv {eb : List Slot → Rs Fl} {tg : Tg} (I : List Slot → Prop) : ∀ {xs : List D} {Γ : List Slot}, (∀ x ∈ xs, ∀ Γ, I Γ → ∃ Γ1 Γ2, bnd tg x Γ = some Γ1 ∧ eb Γ1 = .ok .nx Γ2 ∧ I Γ2) → I Γ → ∃ Γ', forLoop eb tg xs Γ = .ok .nx Γ' ∧ I Γ'
  | [], Γ, _, hI => ⟨Γ, by simp [forLoop], hI⟩
  | x :: xs, Γ, h, hI => by
    obtain ⟨Γ1, Γ2, h1, h2, h3⟩ := h x List.mem_cons_self Γ hI
    obtain ⟨Γ', e1, e2⟩ := for_inv I (xs := xs) (fun y hy => h y (List.mem_cons_of_mem _ hy)) h3
    refine ⟨Γ', ?_, e2⟩
    unfold forLoop
    rw [h1]
    simp only [h2, Rs.bind]
    exact e1
section
variable {Γ : List Slot} {n : Nat}
theorem bind_ok {α β : Type} {a : α} {Γ : List Slot} {f : α → List Slot → Rs β} : (Rs.ok a Γ).bind f = f a Γ := rfl
theorem ev_var {i : Nat} : ev (.var i) Γ = (match Γ[i]? with
    | some (.dat d) => .ok (.dat d) Γ
    | some (.mt _ _) => .ok (.ref i) Γ
    | some (.lck _ _) => .ok (.ref i) Γ
    | _ => .stuck) := by first | (rw [ev]; done) | (rw [ev]; rfl)
theorem ev_con {d : D} : ev (.con d) Γ = .ok (.dat d) Γ := by first | (rw [ev]; done) | (rw [ev]; rfl)
theorem ev_prim {f : List D → Option Ou} {as : Ta} : ev (.prim f as) Γ = (evA as Γ).bind fun ls Γ1 => match resA Γ1 ls with
    | some ds => (match f ds with
      | some o => .ok o.vl Γ1
      | none => .stuck)
    | none => .stuck := by first | (rw [ev]; done) | (rw [ev]; rfl)
theorem ev_mk {f : List D → Option Ou} {as : Ta} : ev (.mk f as) Γ = (evA as Γ).bind fun ls Γ1 => (escA ls Γ1).bind fun ds Γ2 => match f ds with
    | some o => .ok o.vl Γ2
    | none => .stuck := by first | (rw [ev]; done) | (rw [ev]; rfl)
theorem ev_call {f : Fn} {as : Ta} : ev (.call f as) Γ = (evA as Γ).bind fun ls Γ1 => evCall f ls Γ1 := by first | (rw [ev]; done) | (rw [ev]; rfl)
theorem ev_and {a b : Tm} : ev (.and a b) Γ = (ev a Γ).bind fun l Γ1 => match l with
    | .dat (.bl true) => ev b Γ1
    | .dat (.bl false) => .ok l Γ1
    | _ => .stuck := by first | (rw [ev]; done) | (rw [ev]; rfl)
theorem ev_or {a b : Tm} : ev (.or a b) Γ = (ev a Γ).bind fun l Γ1 => match l with
    | .dat (.bl true) => .ok l Γ1
    | .dat (.bl false) => ev b Γ1
    | _ => .stuck := by first | (rw [ev]; done) | (rw [ev]; rfl)
theorem ev_not {a : Tm} : ev (.not a) Γ = (ev a Γ).bind fun l Γ1 => match l with
    | .dat (.bl b) => .ok (.dat (.bl (!b))) Γ1
    | _ => .stuck := by first | (rw [ev]; done) | (rw [ev]; rfl)
theorem ev_ifx {c a b : Tm} : ev (.ifx c a b) Γ = (ev c Γ).bind fun l Γ1 => match l with
    | .dat (.bl true) => ev a Γ1
    | .dat (.bl false) => ev b Γ1
    | _ => .stuck := by first | (rw [ev]; done) | (rw [ev]; rfl)
theorem ev_chn {f g : List D → Option Ou} {a b c : Tm} : ev (.chn f g a b c) Γ = (ev a Γ).bind fun la Γ1 => (ev b Γ1).bind fun lb Γ2 => match resA Γ2 [la, lb] with
    | some ds => (match f ds with
      | some (.dat (.bl false)) => .ok (.dat (.bl false)) Γ2
      | some (.dat (.bl true)) => (ev c Γ2).bind fun lc Γ3 => (match resA Γ3 [lb, lc] with
        | some es => (match g es with
          | some o => .ok o.vl Γ3
          | none => .stuck)
        | none => .stuck)
      | _ => .stuck)
    | none => .stuck := by first | (rw [ev]; done) | (rw [ev]; rfl)
theorem ev_mth {k : D → Bool} {f : D → List D → Option (D × Ou)} {i : Nat} {as : Ta} : ev (.mth k f i as) Γ = (match Γ[i]? with
    | some (.mt _ d0) => if k d0 = true then (evA as Γ).bind fun ls Γ1 => (escA ls Γ1).bind fun ds Γ2 => (match Γ2[i]? with
      | some (.mt b d) => (match f d ds with
        | some (d', o) => .ok o.vl (Γ2.set i (.mt b d'))
        | none => .stuck)
      | _ => .stuck) else .stuck
    | _ => .stuck) := by first | (rw [ev]; done) | (rw [ev]; rfl)
theorem evA_nil : evA .nil Γ = .ok [] Γ := by first | (rw [evA]; done) | (rw [evA]; rfl)
theorem evA_cons {t : Tm} {r : Ta} : evA (.cons t r) Γ = (ev t Γ).bind fun l Γ1 => (evA r Γ1).bind fun ls Γ2 => .ok (l :: ls) Γ2 := by first | (rw [evA]; done) | (rw [evA]; rfl)
/-- a comprehension, by its loop -/
theorem ev_lc {g : List D → Option (List D)} {as : Ta} {tg : Tg} {own : List Nat} {c e : Tm} {ls : List Vl} {Γ1 Γ2 : List Slot} {ds xs acc : List D} (h1 : evA as Γ = .ok ls Γ1) (h2 : resA Γ1 ls = some ds) (h3 : g ds = some xs) (h4 : xs.length ≤ LIM) (h5 : noMut own Γ1 = true)
    (h6 : lcLoop (ev c) (ev e) tg own xs [] (wipeG own (lockA (locks Γ1 ls) Γ1)) = .ok acc Γ2) : ev (.lc g as tg own c e) Γ = .ok (.new (.lst acc)) (keepG own Γ1 (unlockA (locks Γ1 ls) Γ2)) := by
  rw [ev, h1]
  simp only [Rs.bind, h2, h3]
  rw [if_pos ⟨h4, h5⟩, h6]
theorem ex_set {i : Nat} {t : Tm} : ex n (.set i t) Γ = (ev t Γ).bind fun l Γ1 => (store i l Γ1).bind fun _ Γ2 => .ok .nx Γ2 := by first | (rw [ex]; done) | (rw [ex]; rfl)
theorem ex_unp {tg : Tg} {t : Tm} : ex n (.unp tg t) Γ = (ev t Γ).bind fun l Γ1 => match res Γ1 l with
    | some (.tup ds) => (match bnd tg (.tup ds) Γ1 with
      | some Γ2 => .ok .nx Γ2
      | none => .stuck)
    | _ => .stuck := by first | (rw [ex]; done) | (rw [ex]; rfl)
theorem ex_par {is : List Nat} {as : Ta} : ex n (.par is as) Γ = (evA as Γ).bind fun ls Γ1 => (storeA is ls Γ1).bind fun _ Γ2 => .ok .nx Γ2 := by first | (rw [ex]; done) | (rw [ex]; rfl)
theorem ex_sub {f : D → D → D → Option D} {i : Nat} {k t : Tm} : ex n (.sub f i k t) Γ = if isMt Γ i = true then (ev t Γ).bind fun l Γ1 => (ev k Γ1).bind fun lk Γ2 => (escA [l, lk] Γ2).bind fun ds Γ3 => (match ds, Γ3[i]? with
    | [d, dk], some (.mt b o) => (match f o dk d with
      | some o' => .ok .nx (Γ3.set i (.mt b o'))
      | none => .stuck)
    | _, _ => .stuck) else .stuck := by first | (rw [ex]; done) | (rw [ex]; rfl)
theorem ex_drop {t : Tm} : ex n (.drop t) Γ = (ev t Γ).bind fun _ Γ1 => .ok .nx Γ1 := by first | (rw [ex]; done) | (rw [ex]; rfl)
theorem ex_ret {t : Tm} : ex n (.ret t) Γ = (ev t Γ).bind fun l Γ1 => retV l Γ1 := by first | (rw [ex]; done) | (rw [ex]; rfl)
theorem ex_ite {c : Tm} {a b : Ss} : ex n (.ite c a b) Γ = (ev c Γ).bind fun l Γ1 => match l with
    | .dat (.bl true) => exs n a Γ1
    | .dat (.bl false) => exs n b Γ1
    | _ => .stuck := by first | (rw [ex]; done) | (rw [ex]; rfl)
theorem ex_brk : ex n .brk Γ = .ok .bk Γ := by first | (rw [ex]; done) | (rw [ex]; rfl)
theorem ex_cnt : ex n .cnt Γ = .ok .ct Γ := by first | (rw [ex]; done) | (rw [ex]; rfl)
theorem ex_pas : ex n .pas Γ = .ok .nx Γ := by first | (rw [ex]; done) | (rw [ex]; rfl)
theorem exs_nil : exs n .nil Γ = .ok .nx Γ := by first | (rw [exs]; done) | (rw [exs]; rfl)
theorem exs_cons {s : Sm} {r : Ss} : exs n (.cons s r) Γ = (ex n s Γ).bind fun f Γ1 => match f with
    | .nx => exs n r Γ1
    | f => .ok f Γ1 := by first | (rw [exs]; done) | (rw [exs]; rfl)
theorem ex_for {g : List D → Option (List D)} {as : Ta} {tg : Tg} {b : Ss} {ls : List Vl} {Γ1 Γ2 : List Slot} {ds xs : List D} {f : Fl} (h1 : evA as Γ = .ok ls Γ1) (h2 : resA Γ1 ls = some ds) (h3 : g ds = some xs)
    (h6 : forLoop (exs n b) tg xs (lockA (locks Γ1 ls) Γ1) = .ok f Γ2) : ex n (.for g as tg b) Γ = .ok f (unlockA (locks Γ1 ls) Γ2) := by
  rw [ex, h1]
  simp only [Rs.bind, h2, h3, h6, Rs.mapG]
end
/-- a comprehension with one name over a datum, without changes -/
theorem lc_one {Γ : List Slot} {g : List D → Option (List D)} {as : Ta} {j : Nat} {c e : Tm} {ls : List Vl} {ds xs : List D} {p : D → Bool} {f : D → D} (h1 : evA as Γ = .ok ls Γ) (hlk : locks Γ ls = []) (h2 : resA Γ ls = some ds) (h3 : g ds = some xs) (h4 : xs.length ≤ LIM) (hj : Γ[j]? = some .no)
    (h : ∀ x ∈ xs, ev c (Γ.set j (.dat x)) = .ok (.dat (.bl (p x))) (Γ.set j (.dat x)) ∧ (p x = true → ev e (Γ.set j (.dat x)) = .ok (.dat (f x)) (Γ.set j (.dat x)))) :
    ev (.lc g as (.nm j) [j] c e) Γ = .ok (.new (.lst ((xs.filter p).map f))) Γ := by
  have hlt : j < Γ.length := (List.getElem?_eq_some_iff.mp hj).1
  have hs : Γ.set j .no = Γ := by
    refine List.ext_getElem? fun i => ?_
    by_cases q : j = i
    · subst q; rw [List.getElem?_set_self hlt, hj]
    · rw [List.getElem?_set_ne q]
  have nm : noMut [j] Γ = true := by simp [noMut, hj]
  have lp : lcLoop (ev c) (ev e) (.nm j) [j] xs [] (wipeG [j] (lockA (locks Γ ls) Γ)) = .ok ((xs.filter p).map f) Γ := by
    rw [hlk]
    show lcLoop (ev c) (ev e) (.nm j) [j] xs [] (Γ.set j .no) = _
    rw [hs, lc_pure (c := p) (f := f) fun x hx => ⟨Γ.set j (.dat x), by simp [bnd, hlt], (h x hx).1, (h x hx).2, by
      show (Γ.set j (.dat x)).set j .no = Γ
      rw [List.set_set, hs]⟩]
    simp
  rw [ev_lc h1 h2 h3 h4 nm lp, hlk]
  show Rs.ok _ (Γ.set j (Γ[j]?.getD .no)) = _
  rw [hj]
  show Rs.ok _ (Γ.set j .no) = _
  rw [hs]
theorem lc_one_map {Γ : List Slot} {g : List D → Option (List D)} {as : Ta} {j : Nat} {e : Tm} {ls : List Vl} {ds xs : List D} {f : D → D} (h1 : evA as Γ = .ok ls Γ) (hlk : locks Γ ls = []) (h2 : resA Γ ls = some ds) (h3 : g ds = some xs) (h4 : xs.length ≤ LIM) (hj : Γ[j]? = some .no)
    (h : ∀ x ∈ xs, ev e (Γ.set j (.dat x)) = .ok (.dat (f x)) (Γ.set j (.dat x))) :
    ev (.lc g as (.nm j) [j] (.con (.bl true)) e) Γ = .ok (.new (.lst (xs.map f))) Γ := by
  rw [lc_one (p := fun _ => true) (f := f) h1 hlk h2 h3 h4 hj fun x hx => ⟨ev_con, fun _ => h x hx⟩]
  rw [List.filter_eq_self.mpr fun _ _ => rfl]
theorem pb_add (i j : Int) : pBin .Add [.int i, .int j] = some (.dat (.int (i + j))) := rfl
theorem pb_sub (i j : Int) : pBin .Sub [.int i, .int j] = some (.dat (.int (i - j))) := rfl
theorem pb_mul {i j : Int} (h : mulB i j = true) : pBin .Mult [.int i, .int j] = some (.dat (.int (i * j))) := if_pos h
theorem pb_mod {i j : Int} (h : 0 < j) : pBin .Mod [.int i, .int j] = some (.dat (.int (i % j))) := if_pos h
theorem mul_l {i j : Int} (h : i.natAbs < 18446744073709551616) : mulB i j = true := by simp [mulB, h]
theorem mul_r {i j : Int} (h : j.natAbs < 18446744073709551616) : mulB i j = true := by simp [mulB, h]
theorem mul_mod {x m j : Int} (h0 : 0 < m) (h : m < 18446744073709551616) : mulB (x % m) j = true := by
  have := Int.emod_nonneg x (show m ≠ 0 by omega)
  have := Int.emod_lt_of_pos x h0
  exact mul_l (by omega)
theorem shp_int (i : Int) : shp (.int i) = some (.int i) := rfl
theorem shp_non : shp .non = some .none := rfl
theorem shp_bl (b : Bool) : shp (.bl b) = some (.bool b) := rfl
theorem pEq_nil (ds : List D) : pCmp .Eq [.lst ds, .lst []] = some (.dat (.bl ds.isEmpty)) := by
  cases ds with
  | nil => rfl
  | cons d ds => simp [pCmp, pEqF]
theorem lt_i (i j : Int) : pCmp .Lt [.int i, .int j] = some (.dat (.bl (decide (i < j)))) := rfl
theorem le_i (i j : Int) : pCmp .LtE [.int i, .int j] = some (.dat (.bl (decide (i ≤ j)))) := rfl
theorem gt_i (i j : Int) : pCmp .Gt [.int i, .int j] = some (.dat (.bl (decide (j < i)))) := rfl
theorem ge_i (i j : Int) : pCmp .GtE [.int i, .int j] = some (.dat (.bl (decide (j ≤ i)))) := rfl
theorem isnot_n (d : D) : pCmp .IsNot [d, .non] = some (.dat (.bl (!isNon d))) := by cases d <;> rfl
theorem is_n (d : D) : pCmp .Is [d, .non] = some (.dat (.bl (isNon d))) := by cases d <;> rfl
theorem eqInt (i j : Int) : pCmp .Eq [.int i, .int j] = some (.dat (.bl (i == j))) := rfl
theorem neStr {x : Str} (h : PyData.strOk x = true) : pCmp .NotEq [.str x, .str x] = some (.dat (.bl false)) := by
  have : shp (.str x) = some (.str x) := by
    simp [shp, toPy, SeqAt.shaped, PyData.canLay0, h, PyData.depth]
  simp [pCmp, pEq, this, PyData.eqv]
def oD : Option Int → D
  | none => .non
  | some i => .int i
theorem toPy_o (o : Option Int) : ∃ p, toPy (oD o) = some p ∧ p.canLay0 = true ∧ p.depth = 0 ∧ PyData.eqv p .none = o.isNone := by
  cases o with
  | none => exact ⟨_, rfl, rfl, rfl, rfl⟩
  | some i => exact ⟨_, rfl, rfl, rfl, rfl⟩
theorem toPy_os : ∀ (os : List (Option Int)), ∃ ps, toPyA (os.map oD) = some ps ∧ PyData.canLayAll0 ps = true ∧ PyData.depthAll ps = 0 ∧ (ps.any fun z => PyData.eqv z .none) = os.any Option.isNone
  | [] => ⟨[], rfl, rfl, rfl, rfl⟩
  | o :: os => by
    obtain ⟨p, a1, a2, a3, a4⟩ := toPy_o o
    obtain ⟨ps, b1, b2, b3, b4⟩ := toPy_os os
    refine ⟨p :: ps, by simp [toPyA, a1, b1], by simp [PyData.canLayAll0, a2, b2], by simp [PyData.depthAll, a3, b3], by simp [a4, ← b4]⟩
theorem in_none (os : List (Option Int)) : pCmp .In [.non, .lst (os.map oD)] = some (.dat (.bl (os.any Option.isNone))) := by
  obtain ⟨ps, b1, b2, b3, b4⟩ := toPy_os os
  have : shp (.lst (os.map oD)) = some (.list ps) := by
    simp [shp, toPy, b1, SeqAt.shaped, PyData.canLay0, b2, PyData.depth, b3]
  simp [pCmp, pIn, this, shp_non, b4]
theorem ints_some : ∀ (os : List (Option Int)), os.any Option.isNone = false → ints? (os.map oD) = some (os.map (·.getD 0))
  | [], _ => rfl
  | o :: os, h => by
    cases o with
    | none => simp at h
    | some i =>
      simp only [List.any_cons, Option.isNone_some, Bool.false_or] at h
      simp [oD, ints?, ints_some os h]
theorem ints_map {α : Type} (f : α → Int) : ∀ (l : List α), ints? (l.map fun x => D.int (f x)) = some (l.map f)
  | [] => rfl
  | x :: l => by simp [ints?, ints_map f l]
end MP

end
-- Head_k06
section
namespace Hd
open PySem PySem.Spec PyProof.Rows L2
def top (i : Nat) : Stmt := PySem.Challenge.pw_loadgaps_k06_needs.main.body.getD i (.Pass ⟨0, 0, 0, 0⟩)
abbrev s_is_name : Stmt := top 6
abbrev s_names_within : Stmt := top 11
abbrev s_is_expression : Stmt := top 12
abbrev s_needs_in : Stmt := top 13
abbrev s_need_in : Stmt := top 14
abbrev s_need_of : Stmt := top 15
abbrev s__law_start : Stmt := top 17
abbrev s__law_throw : Stmt := top 18
abbrev s__law_pick : Stmt := top 19
abbrev s__law_expression : Stmt := top 20
abbrev s__law_counted : Stmt := top 21
abbrev s__law_need : Stmt := top 22
abbrev s__law_is_word : Stmt := top 23
abbrev s__law_is_formed : Stmt := top 24
abbrev s__law_is_due : Stmt := top 25
abbrev s__law_near : Stmt := top 26
abbrev s__law_deep : Stmt := top 27
abbrev s_law : Stmt := top 28
def d_is_name : He.DefD := ⟨("is_name", none), "is_name", "is_name", defArgs s_is_name, defBody s_is_name, defScope s_is_name, [], []⟩
def d_names_within : He.DefD := ⟨("names_within", none), "names_within", "names_within", defArgs s_names_within, defBody s_names_within, defScope s_names_within, [], []⟩
def d_is_expression : He.DefD := ⟨("is_expression", none), "is_expression", "is_expression", defArgs s_is_expression, defBody s_is_expression, defScope s_is_expression, [], []⟩
def d_needs_in : He.DefD := ⟨("needs_in", none), "needs_in", "needs_in", defArgs s_needs_in, defBody s_needs_in, defScope s_needs_in, [], []⟩
def d_need_in : He.DefD := ⟨("need_in", none), "need_in", "need_in", defArgs s_need_in, defBody s_need_in, defScope s_need_in, [], []⟩
def d_need_of : He.DefD := ⟨("need_of", none), "need_of", "need_of", defArgs s_need_of, defBody s_need_of, defScope s_need_of, [], []⟩
def d__law_start : He.DefD := ⟨("_law_start", none), "_law_start", "_law_start", defArgs s__law_start, defBody s__law_start, defScope s__law_start, [], []⟩
def d__law_throw : He.DefD := ⟨("_law_throw", none), "_law_throw", "_law_throw", defArgs s__law_throw, defBody s__law_throw, defScope s__law_throw, [], []⟩
def d__law_pick : He.DefD := ⟨("_law_pick", none), "_law_pick", "_law_pick", defArgs s__law_pick, defBody s__law_pick, defScope s__law_pick, [], []⟩
def d__law_expression : He.DefD := ⟨("_law_expression", none), "_law_expression", "_law_expression", defArgs s__law_expression, defBody s__law_expression, defScope s__law_expression, [], []⟩
def d__law_counted : He.DefD := ⟨("_law_counted", none), "_law_counted", "_law_counted", defArgs s__law_counted, defBody s__law_counted, defScope s__law_counted, [], []⟩
def d__law_need : He.DefD := ⟨("_law_need", none), "_law_need", "_law_need", defArgs s__law_need, defBody s__law_need, defScope s__law_need, [], []⟩
def d__law_is_word : He.DefD := ⟨("_law_is_word", none), "_law_is_word", "_law_is_word", defArgs s__law_is_word, defBody s__law_is_word, defScope s__law_is_word, [], []⟩
def d__law_is_formed : He.DefD := ⟨("_law_is_formed", none), "_law_is_formed", "_law_is_formed", defArgs s__law_is_formed, defBody s__law_is_formed, defScope s__law_is_formed, [], []⟩
def d__law_is_due : He.DefD := ⟨("_law_is_due", none), "_law_is_due", "_law_is_due", defArgs s__law_is_due, defBody s__law_is_due, defScope s__law_is_due, [], []⟩
def d__law_near : He.DefD := ⟨("_law_near", none), "_law_near", "_law_near", defArgs s__law_near, defBody s__law_near, defScope s__law_near, [], []⟩
def d__law_deep : He.DefD := ⟨("_law_deep", none), "_law_deep", "_law_deep", defArgs s__law_deep, defBody s__law_deep, defScope s__law_deep, [], []⟩
def d_law : He.DefD := ⟨("law", none), "law", "law", defArgs s_law, defBody s_law, defScope s_law, [], []⟩
def fn : List He.DefD := [d_is_name, d_names_within, d_is_expression, d_needs_in, d_need_in, d_need_of, d__law_start, d__law_throw, d__law_pick, d__law_expression, d__law_counted, d__law_need, d__law_is_word, d__law_is_formed, d__law_is_due, d__law_near, d__law_deep, d_law]
def fa : List He.Fa := [.glo "is_name", .glo "names_within", .glo "is_expression", .glo "needs_in", .glo "need_in", .glo "need_of", .glo "_law_start", .glo "_law_throw", .glo "_law_pick", .glo "_law_expression", .glo "_law_counted", .glo "_law_need", .glo "_law_is_word", .glo "_law_is_formed", .glo "_law_is_due", .glo "_law_near", .glo "_law_deep", .glo "law", .free "len", .free "abs", .free "int", .free "max", .free "min", .free "sum", .free "all", .free "any", .free "tuple", .free "list", .free "sorted", .free "repr", .free "isinstance", .free "range", .free "enumerate", .free "str", .free "bool", .free "dict", .str "LETTERS" "abcdefghijklmnopqrstuvwxyz", .int "MOST_DEEP" 8, .int "MOST_LETTERS" 8, .int "MOST_NAMES" 30, .int "MOST_PARTS" 3]
abbrev R : PySem.W.OpenRow := PySem.W.OpenLaw.row PySem.Challenge.rw_loadgaps_k06_needs
abbrev hk : PySem.W.Hook := He.hookD 4 fa fn
def ob (s : PySem.W.SharedT) : He.AlD := He.obsDG 4 fa fn (HandSHeadRun.getT s)
theorem ob_eq (s : PySem.W.SharedT) : ob s = hk.obs s.abs := He.obsDG_eq (HandSHeadRun.getT_eq s)
def nm0 : List PySem.Str := ["GapError", "InvalidOperation", "LETTERS", "MOST_LETTERS", "is_name", "MOST_NAMES", "MOST_DEEP", "MOST_PARTS", "names_within", "is_expression", "needs_in", "need_in", "need_of", "_law_start", "_law_throw", "_law_pick", "_law_expression", "_law_counted"]
def nm1 : List PySem.Str := ["_law_need", "_law_is_word", "_law_is_formed", "_law_is_due", "_law_near", "_law_deep"]
def names : List PySem.Str := nm0 ++ nm1
theorem run (w : World) : HandSHeadRun.RunEq R (PySem.W.view R.prog [28]) hk ob 20000 names w := by
  intro os
  kernel_rfl
end Hd

end
-- Cp_k06
section
namespace Lw
open PySem L2 MP
structure Fs where
  f_is_name : Fn
  f_names_within : Fn
  f_is_expression : Fn
  f_needs_in : Fn
  f_need_in : Fn
  f_need_of : Fn
  f__law_start : Fn
  f__law_throw : Fn
  f__law_pick : Fn
  f__law_expression : Fn
  f__law_counted : Fn
  f__law_need : Fn
  f__law_is_word : Fn
  f__law_is_formed : Fn
  f__law_is_due : Fn
  f__law_near : Fn
  f__law_deep : Fn
  f_law : Fn
def tm_is_name (g : Fs) : Ss := (.cons (.ret (.and (.prim (pIsi "str") (.cons (.var 0) .nil)) (.and (.chn (pCmp .LtE) (pCmp .LtE) (.con (.int 1)) (.prim pLen (.cons (.var 0) .nil)) (.con (.int 8))) (.prim pAll (.cons (.lc gSeq (.cons (.var 0) .nil) (.nm 1) [1] (.con (.bl true)) (.prim (pCmp .In) (.cons (.var 1) (.cons (.con (.str "abcdefghijklmnopqrstuvwxyz")) .nil)))) .nil)))))
   .nil)
def tm_names_within (g : Fs) : Ss := (.cons (.ite (.prim pTru (.cons (.call g.f_is_name (.cons (.var 0) .nil)) .nil)) (.cons (.ret (.con (.int 1)))
   .nil) .nil)
   (.cons (.ite (.or (.prim (pCmp .Eq) (.cons (.var 1) (.cons (.con (.int 1)) .nil))) (.or (.not (.prim pTru (.cons (.prim (pIsi "tuple") (.cons (.var 0) .nil)) .nil))) (.not (.chn (pCmp .LtE) (pCmp .LtE) (.con (.int 1)) (.prim pLen (.cons (.var 0) .nil)) (.con (.int 3)))))) (.cons (.ret (.con .non))
   .nil) .nil)
   (.cons (.set 2 (.lc gSeq (.cons (.var 0) .nil) (.nm 3) [3] (.con (.bl true)) (.call g.f_names_within (.cons (.var 3) (.cons (.prim (pBin .Sub) (.cons (.var 1) (.cons (.con (.int 1)) .nil))) .nil)))))
   (.cons (.ret (.ifx (.prim (pCmp .In) (.cons (.con .non) (.cons (.var 2) .nil))) (.con .non) (.prim pSum (.cons (.var 2) .nil))))
   .nil))))
def tm_is_expression (g : Fs) : Ss := (.cons (.set 1 (.call g.f_names_within (.cons (.var 0) (.cons (.con (.int 8)) .nil))))
   (.cons (.ret (.and (.prim (pCmp .IsNot) (.cons (.var 1) (.cons (.con .non) .nil))) (.prim (pCmp .LtE) (.cons (.var 1) (.cons (.con (.int 30)) .nil)))))
   .nil))
def tm_needs_in (g : Fs) : Ss := (.cons (.ret (.lc gSeq (.cons (.var 0) .nil) (.nm 1) [1] (.con (.bl true)) (.call g.f_need_in (.cons (.var 1) .nil))))
   .nil)
def tm_need_in (g : Fs) : Ss := (.cons (.ite (.prim pTru (.cons (.prim (pIsi "str") (.cons (.var 0) .nil)) .nil)) (.cons (.ret (.con (.int 1)))
   .nil) .nil)
   (.cons (.set 1 (.prim pSrtR (.cons (.call g.f_needs_in (.cons (.var 0) .nil)) .nil)))
   (.cons (.ret (.prim pMax (.cons (.lc gEnum (.cons (.var 1) .nil) (.cons (.nm 2) (.cons (.nm 3) .nil)) [2, 3] (.con (.bl true)) (.prim (pBin .Add) (.cons (.var 3) (.cons (.var 2) .nil)))) .nil)))
   .nil)))
def tm_need_of (g : Fs) : Ss := (.cons (.ite (.not (.prim pTru (.cons (.call g.f_is_expression (.cons (.var 0) .nil)) .nil))) (.cons .nev
   .nil) .nil)
   (.cons (.ret (.call g.f_need_in (.cons (.var 0) .nil)))
   .nil))
def tm__law_start (g : Fs) : Ss := (.cons (.set 2 (.prim (pBin .Add) (.cons (.prim (pBin .Mult) (.cons (.con (.int 23)) (.cons (.var 1) .nil))) (.cons (.con (.int 3)) .nil))))
   (.cons (.ite (.prim (pCmp .Lt) (.cons (.var 1) (.cons (.prim pLen (.cons (.var 0) .nil)) .nil))) (.cons (.set 2 (.prim pIx (.cons (.var 0) (.cons (.var 1) .nil))))
   .nil) .nil)
   (.cons (.set 3 (.prim (pBin .Mod) (.cons (.prim pInt (.cons (.prim pAbs (.cons (.var 2) .nil)) .nil)) (.cons (.prim (pBin .Pow) (.cons (.prim (pBin .Pow) (.cons (.con (.int 10)) (.cons (.con (.int 60)) .nil))) (.cons (.con (.int 12)) .nil))) .nil))))
   (.cons (.set 4 (.prim (pBin .Add) (.cons (.prim (pBin .Add) (.cons (.prim (pBin .Add) (.cons (.prim (pBin .Mult) (.cons (.prim (pBin .Mod) (.cons (.prim pInt (.cons (.var 3) .nil)) (.cons (.con (.int 2147483587)) .nil))) (.cons (.con (.int 48271)) .nil))) (.cons (.prim (pBin .Mult) (.cons (.con (.int 4001)) (.cons (.var 1) .nil))) .nil))) (.cons (.prim (pBin .Mult) (.cons (.con (.int 13)) (.cons (.prim pInt (.cons (.prim (pCmp .Lt) (.cons (.var 2) (.cons (.con (.int 0)) .nil))) .nil)) .nil))) .nil))) (.cons (.con (.int 37)) .nil))))
   (.cons (.ret (.mk dLst (.cons (.prim pMax (.cons (.con (.int 0)) (.cons (.prim (pBin .Sub) (.cons (.var 3) (.cons (.prim (pBin .Pow) (.cons (.con (.int 10)) (.cons (.con (.int 18)) .nil))) .nil))) .nil))) (.cons (.prim (pBin .Mod) (.cons (.prim pInt (.cons (.var 4) .nil)) (.cons (.con (.int 2147483549)) .nil))) (.cons (.con (.int 0)) .nil)))))
   .nil)))))
def tm__law_throw (g : Fs) : Ss := (.cons (.ite (.prim (pCmp .Gt) (.cons (.prim pIx (.cons (.var 0) (.cons (.con (.int 0)) .nil))) (.cons (.con (.int 0)) .nil))) (.cons (.set 2 (.prim (pBin .Mod) (.cons (.prim pInt (.cons (.prim pIx (.cons (.var 0) (.cons (.con (.int 0)) .nil))) .nil)) (.cons (.var 1) .nil))))
   (.cons (.sub stL 0 (.con (.int 0)) (.prim (pBin .FloorDiv) (.cons (.prim pIx (.cons (.var 0) (.cons (.con (.int 0)) .nil))) (.cons (.var 1) .nil))))
   (.cons (.ret (.var 2))
   .nil))) .nil)
   (.cons (.sub stL 0 (.con (.int 2)) (.prim (pBin .Add) (.cons (.prim pIx (.cons (.var 0) (.cons (.con (.int 2)) .nil))) (.cons (.con (.int 1)) .nil))))
   (.cons (.set 3 (.prim (pBin .Mod) (.cons (.prim pInt (.cons (.prim (pBin .Add) (.cons (.prim pIx (.cons (.var 0) (.cons (.con (.int 1)) .nil))) (.cons (.prim (pBin .Mult) (.cons (.con (.int 1000213)) (.cons (.prim pIx (.cons (.var 0) (.cons (.con (.int 2)) .nil))) .nil))) .nil))) .nil)) (.cons (.con (.int 2305843009213693951)) .nil))))
   (.cons (.set 4 (.prim (pBin .Add) (.cons (.prim (pBin .Mult) (.cons (.prim (pBin .Mod) (.cons (.prim pInt (.cons (.prim (pBin .Mult) (.cons (.var 3) (.cons (.var 3) .nil))) .nil)) (.cons (.con (.int 2305843009213693907)) .nil))) (.cons (.var 3) .nil))) (.cons (.prim (pBin .Mult) (.cons (.con (.int 6007)) (.cons (.prim pIx (.cons (.var 0) (.cons (.con (.int 2)) .nil))) .nil))) .nil))))
   (.cons (.set 4 (.prim (pBin .Mod) (.cons (.prim pInt (.cons (.var 4) .nil)) (.cons (.con (.int 2305843009213693921)) .nil))))
   (.cons (.ret (.prim (pBin .Mod) (.cons (.prim pInt (.cons (.prim (pBin .FloorDiv) (.cons (.var 4) (.cons (.con (.int 4096)) .nil))) .nil)) (.cons (.var 1) .nil))))
   .nil))))))
def tm__law_pick (g : Fs) : Ss := (.cons (.ret (.prim pIx (.cons (.var 1) (.cons (.call g.f__law_throw (.cons (.var 0) (.cons (.prim pLen (.cons (.var 1) .nil)) .nil))) .nil))))
   .nil)
def tm__law_expression (g : Fs) : Ss := (.cons (.ite (.or (.prim (pCmp .Eq) (.cons (.var 1) (.cons (.con (.int 1)) .nil))) (.prim (pCmp .Eq) (.cons (.call g.f__law_throw (.cons (.var 0) (.cons (.con (.int 4)) .nil))) (.cons (.con (.int 0)) .nil)))) (.cons (.ret (.call g.f__law_pick (.cons (.var 0) (.cons (.mk dLst (.cons (.con (.str "x")) (.cons (.con (.str "y")) (.cons (.con (.str "a")) (.cons (.con (.str "zzzzzzzz")) .nil))))) .nil))))
   .nil) .nil)
   (.cons (.ret (.prim pTup (.cons (.lc gRng1 (.cons (.prim (pBin .Add) (.cons (.con (.int 1)) (.cons (.call g.f__law_throw (.cons (.var 0) (.cons (.con (.int 3)) .nil))) .nil))) .nil) (.nm 2) [2] (.con (.bl true)) (.call g.f__law_expression (.cons (.var 0) (.cons (.prim (pBin .Sub) (.cons (.var 1) (.cons (.con (.int 1)) .nil))) .nil)))) .nil)))
   .nil))
def tm__law_counted (g : Fs) : Ss := (.cons (.ret (.ifx (.prim pTru (.cons (.prim (pIsi "str") (.cons (.var 0) .nil)) .nil)) (.con (.int 1)) (.prim pSum (.cons (.lc gSeq (.cons (.var 0) .nil) (.nm 1) [1] (.con (.bl true)) (.call g.f__law_counted (.cons (.var 1) .nil))) .nil))))
   .nil)
def tm__law_need (g : Fs) : Ss := (.cons (.ite (.prim pTru (.cons (.prim (pIsi "str") (.cons (.var 0) .nil)) .nil)) (.cons (.ret (.con (.int 1)))
   .nil) .nil)
   (.cons (.set 1 (.prim pSrt (.cons (.lc gSeq (.cons (.var 0) .nil) (.nm 2) [2] (.con (.bl true)) (.prim (pBin .Sub) (.cons (.con (.int 0)) (.cons (.call g.f__law_need (.cons (.var 2) .nil)) .nil)))) .nil)))
   (.cons (.ret (.prim pMax (.cons (.lc gEnum (.cons (.var 1) .nil) (.cons (.nm 3) (.cons (.nm 4) .nil)) [3, 4] (.con (.bl true)) (.prim (pBin .Sub) (.cons (.var 3) (.cons (.var 4) .nil)))) .nil)))
   .nil)))
def tm__law_is_word (g : Fs) : Ss := (.cons (.ite (.or (.not (.prim pTru (.cons (.prim (pIsi "str") (.cons (.var 0) .nil)) .nil))) (.not (.chn (pCmp .LtE) (pCmp .LtE) (.con (.int 1)) (.prim pLen (.cons (.var 0) .nil)) (.con (.int 8))))) (.cons (.ret (.con (.bl false)))
   .nil) .nil)
   (.cons (.ret (.prim (pCmp .Eq) (.cons (.lc gSeq (.cons (.var 0) .nil) (.nm 1) [1] (.prim (pCmp .NotIn) (.cons (.var 1) (.cons (.con (.str "abcdefghijklmnopqrstuvwxyz")) .nil))) (.var 1)) (.cons (.mk dLst .nil) .nil))))
   .nil))
def tm__law_is_formed (g : Fs) : Ss := (.cons (.ite (.prim pTru (.cons (.call g.f__law_is_word (.cons (.var 0) .nil)) .nil)) (.cons (.ret (.con (.bl true)))
   .nil) .nil)
   (.cons (.ite (.or (.prim (pCmp .Eq) (.cons (.var 1) (.cons (.con (.int 1)) .nil))) (.or (.not (.prim pTru (.cons (.prim (pIsi "tuple") (.cons (.var 0) .nil)) .nil))) (.prim (pCmp .NotIn) (.cons (.prim pLen (.cons (.var 0) .nil)) (.cons (.mk dTup (.cons (.con (.int 1)) (.cons (.con (.int 2)) (.cons (.con (.int 3)) .nil)))) .nil))))) (.cons (.ret (.con (.bl false)))
   .nil) .nil)
   (.cons (.ret (.prim (pCmp .Eq) (.cons (.lc gSeq (.cons (.var 0) .nil) (.nm 2) [2] (.not (.prim pTru (.cons (.call g.f__law_is_formed (.cons (.var 2) (.cons (.prim (pBin .Sub) (.cons (.var 1) (.cons (.con (.int 1)) .nil))) .nil))) .nil))) (.var 2)) (.cons (.mk dLst .nil) .nil))))
   .nil)))
def tm__law_is_due (g : Fs) : Ss := (.cons (.ret (.and (.call g.f__law_is_formed (.cons (.var 0) (.cons (.con (.int 8)) .nil))) (.prim (pCmp .LtE) (.cons (.call g.f__law_counted (.cons (.var 0) .nil)) (.cons (.con (.int 30)) .nil)))))
   .nil)
def tm__law_near (g : Fs) : Ss := (.cons (.set 2 (.call g.f__law_pick (.cons (.var 0) (.cons (.mk dLst (.cons (.con .non) (.cons (.con (.bl true)) (.cons (.con (.int 0)) (.cons (.con (.str "")) (.cons (.con (.str "A")) (.cons (.con (.str "x y")) (.cons (.con (.str "abcdefghi")) (.cons (.mk dLst .nil) (.cons (.mk dDct .nil) (.cons (.mk dTup .nil) (.cons (.mk dLst (.cons (.con (.str "x")) .nil)) (.cons (.prim (pBin .Mult) (.cons (.mk dTup (.cons (.con (.str "x")) .nil)) (.cons (.con (.int 4)) .nil))) (.cons (.mk dTup (.cons (.con (.str "x")) (.cons (.con (.int 1)) .nil))) (.cons (.con (.str "x1")) .nil))))))))))))))) .nil))))
   (.cons (.ite (.and (.prim pTru (.cons (.prim (pIsi "tuple") (.cons (.var 1) .nil)) .nil)) (.prim (pCmp .Gt) (.cons (.call g.f__law_throw (.cons (.var 0) (.cons (.con (.int 3)) .nil))) (.cons (.con (.int 0)) .nil)))) (.cons (.set 3 (.call g.f__law_throw (.cons (.var 0) (.cons (.prim pLen (.cons (.var 1) .nil)) .nil))))
   (.cons (.ret (.prim (pBin .Add) (.cons (.prim (pBin .Add) (.cons (.prim (pSl false true) (.cons (.var 1) (.cons (.var 3) .nil))) (.cons (.mk dTup (.cons (.call g.f__law_near (.cons (.var 0) (.cons (.prim pIx (.cons (.var 1) (.cons (.var 3) .nil))) .nil))) .nil)) .nil))) (.cons (.prim (pSl true false) (.cons (.var 1) (.cons (.prim (pBin .Add) (.cons (.var 3) (.cons (.con (.int 1)) .nil))) .nil))) .nil))))
   .nil)) .nil)
   (.cons (.ret (.call g.f__law_pick (.cons (.var 0) (.cons (.mk dLst (.cons (.var 2) (.cons (.mk dTup (.cons (.var 1) .nil)) (.cons (.mk dTup (.cons (.var 1) (.cons (.var 1) .nil))) (.cons (.mk dTup (.cons (.var 1) (.cons (.var 2) .nil))) (.cons (.mk dLst (.cons (.var 1) .nil)) (.cons (.mk dTup (.cons (.var 1) (.cons (.var 1) (.cons (.var 1) .nil)))) .nil))))))) .nil))))
   .nil)))
def tm__law_deep (g : Fs) : Ss := (.cons (.for gRng1 (.cons (.var 1) .nil) (.nm 2) (.cons (.set 0 (.mk dTup (.cons (.var 0) .nil)))
   .nil))
   (.cons (.ret (.var 0))
   .nil))
def tm_law (g : Fs) : Ss := (.cons (.for gRng1 (.cons (.prim pMax (.cons (.con (.int 1)) (.cons (.prim pMin (.cons (.con (.int 6)) (.cons (.prim pLen (.cons (.var 0) .nil)) .nil))) .nil))) .nil) (.nm 1) (.cons (.set 2 (.call g.f__law_start (.cons (.var 0) (.cons (.var 1) .nil))))
   (.cons (.for gRng1 (.cons (.con (.int 5)) .nil) (.nm 3) (.cons (.set 4 (.call g.f__law_expression (.cons (.var 2) (.cons (.prim (pBin .Add) (.cons (.con (.int 2)) (.cons (.call g.f__law_throw (.cons (.var 2) (.cons (.con (.int 4)) .nil))) .nil))) .nil))))
   (.cons (.for gSeq (.cons (.prim (pBin .Add) (.cons (.mk dLst (.cons (.var 4) .nil)) (.cons (.lc gRng1 (.cons (.con (.int 4)) .nil) (.nm 6) [6] (.con (.bl true)) (.call g.f__law_near (.cons (.var 2) (.cons (.var 4) .nil)))) .nil))) .nil) (.nm 5) (.cons (.ite (.prim (pCmp .NotEq) (.cons (.prim pRepr (.cons (.call g.f_is_expression (.cons (.var 5) .nil)) .nil)) (.cons (.prim pRepr (.cons (.call g.f__law_is_due (.cons (.var 5) .nil)) .nil)) .nil))) (.cons (.ret (.con (.bl false)))
   .nil) .nil)
   (.cons (.ite (.and (.prim pTru (.cons (.call g.f__law_is_due (.cons (.var 5) .nil)) .nil)) (.prim (pCmp .NotEq) (.cons (.prim pRepr (.cons (.call g.f_need_of (.cons (.var 5) .nil)) .nil)) (.cons (.prim pRepr (.cons (.call g.f__law_need (.cons (.var 5) .nil)) .nil)) .nil)))) (.cons (.ret (.con (.bl false)))
   .nil) .nil)
   .nil)))
   .nil)))
   .nil)))
   (.cons (.set 7 (.prim (pBin .Mult) (.cons (.mk dTup (.cons (.prim (pBin .Mult) (.cons (.mk dTup (.cons (.con (.str "x")) .nil)) (.cons (.con (.int 3)) .nil))) .nil)) (.cons (.con (.int 3)) .nil))))
   (.cons (.set 8 (.mk dLst (.cons (.call g.f__law_deep (.cons (.con (.str "x")) (.cons (.con (.int 7)) .nil))) (.cons (.call g.f__law_deep (.cons (.con (.str "x")) (.cons (.con (.int 8)) .nil))) (.cons (.mk dTup (.cons (.var 7) (.cons (.var 7) (.cons (.var 7) .nil)))) (.cons (.mk dTup (.cons (.var 7) (.cons (.var 7) (.cons (.mk dTup (.cons (.prim (pSl false true) (.cons (.var 7) (.cons (.con (.int 1)) .nil))) (.cons (.prim (pSl false true) (.cons (.var 7) (.cons (.con (.int 2)) .nil))) (.cons (.prim (pSl false true) (.cons (.var 7) (.cons (.con (.int 1)) .nil))) .nil)))) .nil)))) .nil))))))
   (.cons (.ite (.prim (pCmp .NotEq) (.cons (.lc gSeq (.cons (.var 8) .nil) (.nm 4) [4] (.con (.bl true)) (.call g.f_is_expression (.cons (.var 4) .nil))) (.cons (.mk dLst (.cons (.con (.bl true)) (.cons (.con (.bl false)) (.cons (.con (.bl true)) (.cons (.con (.bl true)) .nil))))) .nil))) (.cons (.ret (.con (.bl false)))
   .nil) .nil)
   (.cons (.set 8 (.mk dLst (.cons (.mk dTup (.cons (.var 7) (.cons (.var 7) (.cons (.prim (pBin .Mult) (.cons (.mk dTup (.cons (.prim (pBin .Mult) (.cons (.mk dTup (.cons (.con (.str "x")) .nil)) (.cons (.con (.int 3)) .nil))) .nil)) (.cons (.con (.int 3)) .nil))) .nil)))) (.cons (.mk dTup (.cons (.var 7) (.cons (.mk dTup (.cons (.var 7) (.cons (.prim (pBin .Mult) (.cons (.mk dTup (.cons (.con (.str "x")) .nil)) (.cons (.con (.int 3)) .nil))) .nil))) (.cons (.var 7) .nil)))) (.cons (.mk dTup (.cons (.mk dTup (.cons (.var 7) (.cons (.prim (pBin .Mult) (.cons (.mk dTup (.cons (.con (.str "y")) .nil)) (.cons (.con (.int 3)) .nil))) .nil))) (.cons (.mk dTup (.cons (.var 7) (.cons (.con (.str "y")) .nil))) (.cons (.var 7) .nil)))) .nil)))))
   (.cons (.ite (.prim (pCmp .NotEq) (.cons (.lc gSeq (.cons (.var 8) .nil) (.nm 4) [4] (.con (.bl true)) (.call g.f_is_expression (.cons (.var 4) .nil))) (.cons (.mk dLst (.cons (.con (.bl true)) (.cons (.con (.bl true)) (.cons (.con (.bl false)) .nil)))) .nil))) (.cons (.ret (.con (.bl false)))
   .nil) .nil)
   (.cons (.par [9, 10] (.cons (.call g.f__law_deep (.cons (.con (.str "x")) (.cons (.con (.int 6)) .nil))) (.cons (.call g.f__law_deep (.cons (.con (.str "x")) (.cons (.con (.int 7)) .nil))) .nil)))
   (.cons (.set 8 (.mk dLst (.cons (.mk dTup (.cons (.con (.str "x")) (.cons (.var 9) .nil))) (.cons (.mk dTup (.cons (.con (.str "x")) (.cons (.var 10) .nil))) (.cons (.mk dTup (.cons (.con (.str "x")) (.cons (.con (.str "y")) (.cons (.var 9) .nil)))) (.cons (.mk dTup (.cons (.con (.str "x")) (.cons (.con (.str "y")) (.cons (.var 10) .nil)))) (.cons (.mk dTup (.cons (.con (.str "x")) (.cons (.var 10) (.cons (.con (.str "x")) .nil)))) (.cons (.mk dTup (.cons (.var 9) (.cons (.var 9) (.cons (.var 9) .nil)))) .nil))))))))
   (.cons (.ite (.prim (pCmp .NotEq) (.cons (.lc gSeq (.cons (.var 8) .nil) (.nm 4) [4] (.con (.bl true)) (.call g.f_is_expression (.cons (.var 4) .nil))) (.cons (.mk dLst (.cons (.con (.bl true)) (.cons (.con (.bl false)) (.cons (.con (.bl true)) (.cons (.con (.bl false)) (.cons (.con (.bl false)) (.cons (.con (.bl true)) .nil))))))) .nil))) (.cons (.ret (.con (.bl false)))
   .nil) .nil)
   (.cons (.set 8 (.mk dLst (.cons (.con (.str "x")) (.cons (.mk dTup (.cons (.con (.str "x")) .nil)) (.cons (.mk dTup (.cons (.con (.str "x")) (.cons (.con (.str "y")) .nil))) (.cons (.mk dTup (.cons (.con (.str "x")) (.cons (.con (.str "y")) (.cons (.con (.str "x")) .nil)))) (.cons (.mk dTup (.cons (.mk dTup (.cons (.con (.str "x")) (.cons (.con (.str "y")) .nil))) (.cons (.mk dTup (.cons (.con (.str "x")) (.cons (.con (.str "y")) .nil))) .nil))) (.cons (.mk dTup (.cons (.var 7) (.cons (.var 7) .nil))) .nil))))))))
   (.cons (.set 8 (.prim (pBin .Add) (.cons (.var 8) (.cons (.mk dLst (.cons (.mk dTup (.cons (.con (.str "x")) (.cons (.con (.str "x")) (.cons (.mk dTup (.cons (.con (.str "y")) (.cons (.con (.str "y")) (.cons (.con (.str "y")) .nil)))) .nil)))) (.cons (.mk dTup (.cons (.var 7) (.cons (.var 7) (.cons (.var 7) .nil)))) (.cons (.mk dTup (.cons (.mk dTup (.cons (.con (.str "x")) (.cons (.var 7) (.cons (.con (.str "x")) .nil)))) (.cons (.con (.str "x")) (.cons (.var 7) .nil)))) .nil)))) .nil))))
   (.cons (.ret (.prim (pCmp .Eq) (.cons (.lc gSeq (.cons (.var 8) .nil) (.nm 4) [4] (.con (.bl true)) (.call g.f_need_of (.cons (.var 4) .nil))) (.cons (.mk dLst (.cons (.con (.int 1)) (.cons (.con (.int 1)) (.cons (.con (.int 2)) (.cons (.con (.int 3)) (.cons (.con (.int 3)) (.cons (.con (.int 6)) (.cons (.con (.int 3)) (.cons (.con (.int 7)) (.cons (.con (.int 6)) .nil)))))))))) .nil))))
   .nil))))))))))))
def G0 : Fs := ⟨⟨[false], fun _ => .stuck⟩, ⟨[false, false], fun _ => .stuck⟩, ⟨[false], fun _ => .stuck⟩, ⟨[false], fun _ => .stuck⟩, ⟨[false], fun _ => .stuck⟩, ⟨[false], fun _ => .stuck⟩, ⟨[false, false], fun _ => .stuck⟩, ⟨[true, false], fun _ => .stuck⟩, ⟨[true, false], fun _ => .stuck⟩, ⟨[true, false], fun _ => .stuck⟩, ⟨[false], fun _ => .stuck⟩, ⟨[false], fun _ => .stuck⟩, ⟨[false], fun _ => .stuck⟩, ⟨[false, false], fun _ => .stuck⟩, ⟨[false], fun _ => .stuck⟩, ⟨[true, false], fun _ => .stuck⟩, ⟨[false, false], fun _ => .stuck⟩, ⟨[false], fun _ => .stuck⟩⟩
def step (g : Fs) : Fs := ⟨⟨[false], runF [false] 1 1000 (tm_is_name g)⟩,
  ⟨[false, false], runF [false, false] 2 1000 (tm_names_within g)⟩,
  ⟨[false], runF [false] 1 1000 (tm_is_expression g)⟩,
  ⟨[false], runF [false] 1 1000 (tm_needs_in g)⟩,
  ⟨[false], runF [false] 3 1000 (tm_need_in g)⟩,
  ⟨[false], runF [false] 0 1000 (tm_need_of g)⟩,
  ⟨[false, false], runF [false, false] 3 1000 (tm__law_start g)⟩,
  ⟨[true, false], runF [true, false] 3 1000 (tm__law_throw g)⟩,
  ⟨[true, false], runF [true, false] 0 1000 (tm__law_pick g)⟩,
  ⟨[true, false], runF [true, false] 1 1000 (tm__law_expression g)⟩,
  ⟨[false], runF [false] 1 1000 (tm__law_counted g)⟩,
  ⟨[false], runF [false] 4 1000 (tm__law_need g)⟩,
  ⟨[false], runF [false] 1 1000 (tm__law_is_word g)⟩,
  ⟨[false, false], runF [false, false] 1 1000 (tm__law_is_formed g)⟩,
  ⟨[false], runF [false] 0 1000 (tm__law_is_due g)⟩,
  ⟨[true, false], runF [true, false] 2 1000 (tm__law_near g)⟩,
  ⟨[false, false], runF [false, false] 1 1000 (tm__law_deep g)⟩,
  ⟨[false], runF [false] 10 1000 (tm_law g)⟩⟩
def G : Nat → Fs
  | 0 => G0
  | k + 1 => step (G k)
def fns (g : Fs) : List (Str × Fn) := [("is_name", g.f_is_name), ("names_within", g.f_names_within), ("is_expression", g.f_is_expression), ("needs_in", g.f_needs_in), ("need_in", g.f_need_in), ("need_of", g.f_need_of), ("_law_start", g.f__law_start), ("_law_throw", g.f__law_throw), ("_law_pick", g.f__law_pick), ("_law_expression", g.f__law_expression), ("_law_counted", g.f__law_counted), ("_law_need", g.f__law_need), ("_law_is_word", g.f__law_is_word), ("_law_is_formed", g.f__law_is_formed), ("_law_is_due", g.f__law_is_due), ("_law_near", g.f__law_near), ("_law_deep", g.f__law_deep), ("law", g.f_law)]
def con : List (Str × D) := [("LETTERS", (.str "abcdefghijklmnopqrstuvwxyz")), ("MOST_DEEP", (.int 8)), ("MOST_LETTERS", (.int 8)), ("MOST_NAMES", (.int 30)), ("MOST_PARTS", (.int 3))]
def N_is_name : List Str := ["value", "sign"]
theorem sc_is_name : FnScope N_is_name ["value"] (defScope Hd.s_is_name) := ⟨by kernel_rfl, by kernel_rfl, by kernel_rfl, by decide +kernel, by kernel_rfl, by decide +kernel, by decide +kernel⟩
theorem cp_is_name (g : Fs) : cSs (cS (ct0 N_is_name (fns g) con) (svOf (defScope Hd.s_is_name)) 60) (defBody Hd.s_is_name) = some (tm_is_name g) := by kernel_rfl
def N_names_within : List Str := ["value", "deep", "found", "part"]
theorem sc_names_within : FnScope N_names_within ["value", "deep"] (defScope Hd.s_names_within) := ⟨by kernel_rfl, by kernel_rfl, by kernel_rfl, by decide +kernel, by kernel_rfl, by decide +kernel, by decide +kernel⟩
theorem cp_names_within (g : Fs) : cSs (cS (ct0 N_names_within (fns g) con) (svOf (defScope Hd.s_names_within)) 60) (defBody Hd.s_names_within) = some (tm_names_within g) := by kernel_rfl
def N_is_expression : List Str := ["value", "found"]
theorem sc_is_expression : FnScope N_is_expression ["value"] (defScope Hd.s_is_expression) := ⟨by kernel_rfl, by kernel_rfl, by kernel_rfl, by decide +kernel, by kernel_rfl, by decide +kernel, by decide +kernel⟩
theorem cp_is_expression (g : Fs) : cSs (cS (ct0 N_is_expression (fns g) con) (svOf (defScope Hd.s_is_expression)) 60) (defBody Hd.s_is_expression) = some (tm_is_expression g) := by kernel_rfl
def N_needs_in : List Str := ["expression", "part"]
theorem sc_needs_in : FnScope N_needs_in ["expression"] (defScope Hd.s_needs_in) := ⟨by kernel_rfl, by kernel_rfl, by kernel_rfl, by decide +kernel, by kernel_rfl, by decide +kernel, by decide +kernel⟩
theorem cp_needs_in (g : Fs) : cSs (cS (ct0 N_needs_in (fns g) con) (svOf (defScope Hd.s_needs_in)) 60) (defBody Hd.s_needs_in) = some (tm_needs_in g) := by kernel_rfl
def N_need_in : List Str := ["expression", "needs", "place", "need"]
theorem sc_need_in : FnScope N_need_in ["expression"] (defScope Hd.s_need_in) := ⟨by kernel_rfl, by kernel_rfl, by kernel_rfl, by decide +kernel, by kernel_rfl, by decide +kernel, by decide +kernel⟩
theorem cp_need_in (g : Fs) : cSs (cS (ct0 N_need_in (fns g) con) (svOf (defScope Hd.s_need_in)) 60) (defBody Hd.s_need_in) = some (tm_need_in g) := by kernel_rfl
def N_need_of : List Str := ["expression"]
theorem sc_need_of : FnScope N_need_of ["expression"] (defScope Hd.s_need_of) := ⟨by kernel_rfl, by kernel_rfl, by kernel_rfl, by decide +kernel, by kernel_rfl, by decide +kernel, by decide +kernel⟩
theorem cp_need_of (g : Fs) : cSs (cS (ct0 N_need_of (fns g) con) (svOf (defScope Hd.s_need_of)) 60) (defBody Hd.s_need_of) = some (tm_need_of g) := by kernel_rfl
def N__law_start : List Str := ["_law_script", "_law_at", "_law_number", "_law_great", "_law_mixed"]
theorem sc__law_start : FnScope N__law_start ["_law_script", "_law_at"] (defScope Hd.s__law_start) := ⟨by kernel_rfl, by kernel_rfl, by kernel_rfl, by decide +kernel, by kernel_rfl, by decide +kernel, by decide +kernel⟩
theorem cp__law_start (g : Fs) : cSs (cS (ct0 N__law_start (fns g) con) (svOf (defScope Hd.s__law_start)) 60) (defBody Hd.s__law_start) = some (tm__law_start g) := by kernel_rfl
def N__law_throw : List Str := ["_law_bag", "_law_total", "_law_found", "_law_one", "_law_two"]
theorem sc__law_throw : FnScope N__law_throw ["_law_bag", "_law_total"] (defScope Hd.s__law_throw) := ⟨by kernel_rfl, by kernel_rfl, by kernel_rfl, by decide +kernel, by kernel_rfl, by decide +kernel, by decide +kernel⟩
theorem cp__law_throw (g : Fs) : cSs (cS (ct0 N__law_throw (fns g) con) (svOf (defScope Hd.s__law_throw)) 60) (defBody Hd.s__law_throw) = some (tm__law_throw g) := by kernel_rfl
def N__law_pick : List Str := ["_law_bag", "_law_items"]
theorem sc__law_pick : FnScope N__law_pick ["_law_bag", "_law_items"] (defScope Hd.s__law_pick) := ⟨by kernel_rfl, by kernel_rfl, by kernel_rfl, by decide +kernel, by kernel_rfl, by decide +kernel, by decide +kernel⟩
theorem cp__law_pick (g : Fs) : cSs (cS (ct0 N__law_pick (fns g) con) (svOf (defScope Hd.s__law_pick)) 60) (defBody Hd.s__law_pick) = some (tm__law_pick g) := by kernel_rfl
def N__law_expression : List Str := ["_law_bag", "_law_deep_here", "_law_turn"]
theorem sc__law_expression : FnScope N__law_expression ["_law_bag", "_law_deep_here"] (defScope Hd.s__law_expression) := ⟨by kernel_rfl, by kernel_rfl, by kernel_rfl, by decide +kernel, by kernel_rfl, by decide +kernel, by decide +kernel⟩
theorem cp__law_expression (g : Fs) : cSs (cS (ct0 N__law_expression (fns g) con) (svOf (defScope Hd.s__law_expression)) 60) (defBody Hd.s__law_expression) = some (tm__law_expression g) := by kernel_rfl
def N__law_counted : List Str := ["_law_value", "_law_part"]
theorem sc__law_counted : FnScope N__law_counted ["_law_value"] (defScope Hd.s__law_counted) := ⟨by kernel_rfl, by kernel_rfl, by kernel_rfl, by decide +kernel, by kernel_rfl, by decide +kernel, by decide +kernel⟩
theorem cp__law_counted (g : Fs) : cSs (cS (ct0 N__law_counted (fns g) con) (svOf (defScope Hd.s__law_counted)) 60) (defBody Hd.s__law_counted) = some (tm__law_counted g) := by kernel_rfl
def N__law_need : List Str := ["_law_value", "_law_needs", "_law_part", "_law_at", "_law_need_here"]
theorem sc__law_need : FnScope N__law_need ["_law_value"] (defScope Hd.s__law_need) := ⟨by kernel_rfl, by kernel_rfl, by kernel_rfl, by decide +kernel, by kernel_rfl, by decide +kernel, by decide +kernel⟩
theorem cp__law_need (g : Fs) : cSs (cS (ct0 N__law_need (fns g) con) (svOf (defScope Hd.s__law_need)) 60) (defBody Hd.s__law_need) = some (tm__law_need g) := by kernel_rfl
def N__law_is_word : List Str := ["_law_value", "_law_sign"]
theorem sc__law_is_word : FnScope N__law_is_word ["_law_value"] (defScope Hd.s__law_is_word) := ⟨by kernel_rfl, by kernel_rfl, by kernel_rfl, by decide +kernel, by kernel_rfl, by decide +kernel, by decide +kernel⟩
theorem cp__law_is_word (g : Fs) : cSs (cS (ct0 N__law_is_word (fns g) con) (svOf (defScope Hd.s__law_is_word)) 60) (defBody Hd.s__law_is_word) = some (tm__law_is_word g) := by kernel_rfl
def N__law_is_formed : List Str := ["_law_value", "_law_deep_here", "_law_part"]
theorem sc__law_is_formed : FnScope N__law_is_formed ["_law_value", "_law_deep_here"] (defScope Hd.s__law_is_formed) := ⟨by kernel_rfl, by kernel_rfl, by kernel_rfl, by decide +kernel, by kernel_rfl, by decide +kernel, by decide +kernel⟩
theorem cp__law_is_formed (g : Fs) : cSs (cS (ct0 N__law_is_formed (fns g) con) (svOf (defScope Hd.s__law_is_formed)) 60) (defBody Hd.s__law_is_formed) = some (tm__law_is_formed g) := by kernel_rfl
def N__law_is_due : List Str := ["_law_value"]
theorem sc__law_is_due : FnScope N__law_is_due ["_law_value"] (defScope Hd.s__law_is_due) := ⟨by kernel_rfl, by kernel_rfl, by kernel_rfl, by decide +kernel, by kernel_rfl, by decide +kernel, by decide +kernel⟩
theorem cp__law_is_due (g : Fs) : cSs (cS (ct0 N__law_is_due (fns g) con) (svOf (defScope Hd.s__law_is_due)) 60) (defBody Hd.s__law_is_due) = some (tm__law_is_due g) := by kernel_rfl
def N__law_near : List Str := ["_law_bag", "_law_value", "_law_odd", "_law_at"]
theorem sc__law_near : FnScope N__law_near ["_law_bag", "_law_value"] (defScope Hd.s__law_near) := ⟨by kernel_rfl, by kernel_rfl, by kernel_rfl, by decide +kernel, by kernel_rfl, by decide +kernel, by decide +kernel⟩
theorem cp__law_near (g : Fs) : cSs (cS (ct0 N__law_near (fns g) con) (svOf (defScope Hd.s__law_near)) 60) (defBody Hd.s__law_near) = some (tm__law_near g) := by kernel_rfl
def N__law_deep : List Str := ["_law_value", "_law_many", "_law_turn"]
theorem sc__law_deep : FnScope N__law_deep ["_law_value", "_law_many"] (defScope Hd.s__law_deep) := ⟨by kernel_rfl, by kernel_rfl, by kernel_rfl, by decide +kernel, by kernel_rfl, by decide +kernel, by decide +kernel⟩
theorem cp__law_deep (g : Fs) : cSs (cS (ct0 N__law_deep (fns g) con) (svOf (defScope Hd.s__law_deep)) 60) (defBody Hd.s__law_deep) = some (tm__law_deep g) := by kernel_rfl
def N_law : List Str := ["_law_script", "_law_at", "_law_bag", "_law_turn", "_law_value", "_law_other", "_law_again", "_law_nine", "_law_some", "_law_deep_here", "_law_more"]
theorem sc_law : FnScope N_law ["_law_script"] (defScope Hd.s_law) := ⟨by kernel_rfl, by kernel_rfl, by kernel_rfl, by decide +kernel, by kernel_rfl, by decide +kernel, by decide +kernel⟩
theorem cp_law (g : Fs) : cSs (cS (ct0 N_law (fns g) con) (svOf (defScope Hd.s_law)) 60) (defBody Hd.s_law) = some (tm_law g) := by kernel_rfl
end Lw

end
-- En_k06
section
namespace Lw
open PySem L2 MP
section
variable {P : Program} {w : World} {K : PySem.W.Frag} {h : Heap} {mg : Str → Option Value} {base : Heap}
theorem con_ok (X : K.In h) (Gn : h.Ns mainGlobals mg) (c : He.SaysD Hd.fa Hd.fn K) : ∀ p ∈ con, Pc K mg p := by
  simp only [con, List.forall_mem_cons]
  exact ⟨pc_str X Gn (c.fact 36 rfl), pc_int X Gn (c.fact 37 rfl), pc_int X Gn (c.fact 38 rfl), pc_int X Gn (c.fact 39 rfl), pc_int X Gn (c.fact 40 rfl), nofun⟩
theorem bn_ok (X : K.In h) (Gn : h.Ns mainGlobals mg) (c : He.SaysD Hd.fa Hd.fn K) : ∀ x ∈ bnames, mg x = none := by
  simp only [bnames, List.forall_mem_cons]
  exact ⟨He.free_ok X Gn (c.fact 18 rfl), He.free_ok X Gn (c.fact 19 rfl), He.free_ok X Gn (c.fact 20 rfl), He.free_ok X Gn (c.fact 21 rfl), He.free_ok X Gn (c.fact 22 rfl), He.free_ok X Gn (c.fact 23 rfl), He.free_ok X Gn (c.fact 24 rfl), He.free_ok X Gn (c.fact 25 rfl), He.free_ok X Gn (c.fact 26 rfl), He.free_ok X Gn (c.fact 27 rfl), He.free_ok X Gn (c.fact 28 rfl), He.free_ok X Gn (c.fact 29 rfl), He.free_ok X Gn (c.fact 30 rfl), He.free_ok X Gn (c.fact 31 rfl), He.free_ok X Gn (c.fact 32 rfl), He.free_ok X Gn (c.fact 33 rfl), He.free_ok X Gn (c.fact 34 rfl), He.free_ok X Gn (c.fact 35 rfl), nofun⟩
theorem all_ok (X : K.In h) (Gn : h.Ns mainGlobals mg) (c : He.SaysD Hd.fa Hd.fn K) : ∀ k, ∀ p ∈ fns (G k), Pr P w K mg base k p := by
  have hb := bn_ok X Gn c
  have hc := con_ok X Gn c
  obtain ⟨fd_is_name, F_is_name⟩ := c.def_ 0 (d := Hd.d_is_name) rfl
  have b_is_name : Binds K fd_is_name ["value"] [] := F_is_name.bindsN fun _ _ _ _ _ _ us hl => match us, hl with | [_], _ => rfl
  have g_is_name : mg "is_name" = some (.ref (He.ga K "is_name")) := He.glo_ok X Gn (c.fact 0 (f := .glo "is_name") rfl)
  obtain ⟨fd_names_within, F_names_within⟩ := c.def_ 1 (d := Hd.d_names_within) rfl
  have b_names_within : Binds K fd_names_within ["value", "deep"] [] := F_names_within.bindsN fun _ _ _ _ _ _ us hl => match us, hl with | [_, _], _ => rfl
  have g_names_within : mg "names_within" = some (.ref (He.ga K "names_within")) := He.glo_ok X Gn (c.fact 1 (f := .glo "names_within") rfl)
  obtain ⟨fd_is_expression, F_is_expression⟩ := c.def_ 2 (d := Hd.d_is_expression) rfl
  have b_is_expression : Binds K fd_is_expression ["value"] [] := F_is_expression.bindsN fun _ _ _ _ _ _ us hl => match us, hl with | [_], _ => rfl
  have g_is_expression : mg "is_expression" = some (.ref (He.ga K "is_expression")) := He.glo_ok X Gn (c.fact 2 (f := .glo "is_expression") rfl)
  obtain ⟨fd_needs_in, F_needs_in⟩ := c.def_ 3 (d := Hd.d_needs_in) rfl
  have b_needs_in : Binds K fd_needs_in ["expression"] [] := F_needs_in.bindsN fun _ _ _ _ _ _ us hl => match us, hl with | [_], _ => rfl
  have g_needs_in : mg "needs_in" = some (.ref (He.ga K "needs_in")) := He.glo_ok X Gn (c.fact 3 (f := .glo "needs_in") rfl)
  obtain ⟨fd_need_in, F_need_in⟩ := c.def_ 4 (d := Hd.d_need_in) rfl
  have b_need_in : Binds K fd_need_in ["expression"] [] := F_need_in.bindsN fun _ _ _ _ _ _ us hl => match us, hl with | [_], _ => rfl
  have g_need_in : mg "need_in" = some (.ref (He.ga K "need_in")) := He.glo_ok X Gn (c.fact 4 (f := .glo "need_in") rfl)
  obtain ⟨fd_need_of, F_need_of⟩ := c.def_ 5 (d := Hd.d_need_of) rfl
  have b_need_of : Binds K fd_need_of ["expression"] [] := F_need_of.bindsN fun _ _ _ _ _ _ us hl => match us, hl with | [_], _ => rfl
  have g_need_of : mg "need_of" = some (.ref (He.ga K "need_of")) := He.glo_ok X Gn (c.fact 5 (f := .glo "need_of") rfl)
  obtain ⟨fd__law_start, F__law_start⟩ := c.def_ 6 (d := Hd.d__law_start) rfl
  have b__law_start : Binds K fd__law_start ["_law_script", "_law_at"] [] := F__law_start.bindsN fun _ _ _ _ _ _ us hl => match us, hl with | [_, _], _ => rfl
  have g__law_start : mg "_law_start" = some (.ref (He.ga K "_law_start")) := He.glo_ok X Gn (c.fact 6 (f := .glo "_law_start") rfl)
  obtain ⟨fd__law_throw, F__law_throw⟩ := c.def_ 7 (d := Hd.d__law_throw) rfl
  have b__law_throw : Binds K fd__law_throw ["_law_bag", "_law_total"] [] := F__law_throw.bindsN fun _ _ _ _ _ _ us hl => match us, hl with | [_, _], _ => rfl
  have g__law_throw : mg "_law_throw" = some (.ref (He.ga K "_law_throw")) := He.glo_ok X Gn (c.fact 7 (f := .glo "_law_throw") rfl)
  obtain ⟨fd__law_pick, F__law_pick⟩ := c.def_ 8 (d := Hd.d__law_pick) rfl
  have b__law_pick : Binds K fd__law_pick ["_law_bag", "_law_items"] [] := F__law_pick.bindsN fun _ _ _ _ _ _ us hl => match us, hl with | [_, _], _ => rfl
  have g__law_pick : mg "_law_pick" = some (.ref (He.ga K "_law_pick")) := He.glo_ok X Gn (c.fact 8 (f := .glo "_law_pick") rfl)
  obtain ⟨fd__law_expression, F__law_expression⟩ := c.def_ 9 (d := Hd.d__law_expression) rfl
  have b__law_expression : Binds K fd__law_expression ["_law_bag", "_law_deep_here"] [] := F__law_expression.bindsN fun _ _ _ _ _ _ us hl => match us, hl with | [_, _], _ => rfl
  have g__law_expression : mg "_law_expression" = some (.ref (He.ga K "_law_expression")) := He.glo_ok X Gn (c.fact 9 (f := .glo "_law_expression") rfl)
  obtain ⟨fd__law_counted, F__law_counted⟩ := c.def_ 10 (d := Hd.d__law_counted) rfl
  have b__law_counted : Binds K fd__law_counted ["_law_value"] [] := F__law_counted.bindsN fun _ _ _ _ _ _ us hl => match us, hl with | [_], _ => rfl
  have g__law_counted : mg "_law_counted" = some (.ref (He.ga K "_law_counted")) := He.glo_ok X Gn (c.fact 10 (f := .glo "_law_counted") rfl)
  obtain ⟨fd__law_need, F__law_need⟩ := c.def_ 11 (d := Hd.d__law_need) rfl
  have b__law_need : Binds K fd__law_need ["_law_value"] [] := F__law_need.bindsN fun _ _ _ _ _ _ us hl => match us, hl with | [_], _ => rfl
  have g__law_need : mg "_law_need" = some (.ref (He.ga K "_law_need")) := He.glo_ok X Gn (c.fact 11 (f := .glo "_law_need") rfl)
  obtain ⟨fd__law_is_word, F__law_is_word⟩ := c.def_ 12 (d := Hd.d__law_is_word) rfl
  have b__law_is_word : Binds K fd__law_is_word ["_law_value"] [] := F__law_is_word.bindsN fun _ _ _ _ _ _ us hl => match us, hl with | [_], _ => rfl
  have g__law_is_word : mg "_law_is_word" = some (.ref (He.ga K "_law_is_word")) := He.glo_ok X Gn (c.fact 12 (f := .glo "_law_is_word") rfl)
  obtain ⟨fd__law_is_formed, F__law_is_formed⟩ := c.def_ 13 (d := Hd.d__law_is_formed) rfl
  have b__law_is_formed : Binds K fd__law_is_formed ["_law_value", "_law_deep_here"] [] := F__law_is_formed.bindsN fun _ _ _ _ _ _ us hl => match us, hl with | [_, _], _ => rfl
  have g__law_is_formed : mg "_law_is_formed" = some (.ref (He.ga K "_law_is_formed")) := He.glo_ok X Gn (c.fact 13 (f := .glo "_law_is_formed") rfl)
  obtain ⟨fd__law_is_due, F__law_is_due⟩ := c.def_ 14 (d := Hd.d__law_is_due) rfl
  have b__law_is_due : Binds K fd__law_is_due ["_law_value"] [] := F__law_is_due.bindsN fun _ _ _ _ _ _ us hl => match us, hl with | [_], _ => rfl
  have g__law_is_due : mg "_law_is_due" = some (.ref (He.ga K "_law_is_due")) := He.glo_ok X Gn (c.fact 14 (f := .glo "_law_is_due") rfl)
  obtain ⟨fd__law_near, F__law_near⟩ := c.def_ 15 (d := Hd.d__law_near) rfl
  have b__law_near : Binds K fd__law_near ["_law_bag", "_law_value"] [] := F__law_near.bindsN fun _ _ _ _ _ _ us hl => match us, hl with | [_, _], _ => rfl
  have g__law_near : mg "_law_near" = some (.ref (He.ga K "_law_near")) := He.glo_ok X Gn (c.fact 15 (f := .glo "_law_near") rfl)
  obtain ⟨fd__law_deep, F__law_deep⟩ := c.def_ 16 (d := Hd.d__law_deep) rfl
  have b__law_deep : Binds K fd__law_deep ["_law_value", "_law_many"] [] := F__law_deep.bindsN fun _ _ _ _ _ _ us hl => match us, hl with | [_, _], _ => rfl
  have g__law_deep : mg "_law_deep" = some (.ref (He.ga K "_law_deep")) := He.glo_ok X Gn (c.fact 16 (f := .glo "_law_deep") rfl)
  obtain ⟨fd_law, F_law⟩ := c.def_ 17 (d := Hd.d_law) rfl
  have b_law : Binds K fd_law ["_law_script"] [] := F_law.bindsN fun _ _ _ _ _ _ us hl => match us, hl with | [_], _ => rfl
  have g_law : mg "law" = some (.ref (He.ga K "law")) := He.glo_ok X Gn (c.fact 17 (f := .glo "law") rfl)
  intro k
  induction k with
  | zero =>
    simp only [fns, List.forall_mem_cons]
    exact ⟨⟨_, fd_is_name, _, g_is_name, F_is_name.kp, b_is_name, fn_stuck⟩, ⟨_, fd_names_within, _, g_names_within, F_names_within.kp, b_names_within, fn_stuck⟩, ⟨_, fd_is_expression, _, g_is_expression, F_is_expression.kp, b_is_expression, fn_stuck⟩, ⟨_, fd_needs_in, _, g_needs_in, F_needs_in.kp, b_needs_in, fn_stuck⟩, ⟨_, fd_need_in, _, g_need_in, F_need_in.kp, b_need_in, fn_stuck⟩, ⟨_, fd_need_of, _, g_need_of, F_need_of.kp, b_need_of, fn_stuck⟩, ⟨_, fd__law_start, _, g__law_start, F__law_start.kp, b__law_start, fn_stuck⟩, ⟨_, fd__law_throw, _, g__law_throw, F__law_throw.kp, b__law_throw, fn_stuck⟩, ⟨_, fd__law_pick, _, g__law_pick, F__law_pick.kp, b__law_pick, fn_stuck⟩, ⟨_, fd__law_expression, _, g__law_expression, F__law_expression.kp, b__law_expression, fn_stuck⟩, ⟨_, fd__law_counted, _, g__law_counted, F__law_counted.kp, b__law_counted, fn_stuck⟩, ⟨_, fd__law_need, _, g__law_need, F__law_need.kp, b__law_need, fn_stuck⟩, ⟨_, fd__law_is_word, _, g__law_is_word, F__law_is_word.kp, b__law_is_word, fn_stuck⟩, ⟨_, fd__law_is_formed, _, g__law_is_formed, F__law_is_formed.kp, b__law_is_formed, fn_stuck⟩, ⟨_, fd__law_is_due, _, g__law_is_due, F__law_is_due.kp, b__law_is_due, fn_stuck⟩, ⟨_, fd__law_near, _, g__law_near, F__law_near.kp, b__law_near, fn_stuck⟩, ⟨_, fd__law_deep, _, g__law_deep, F__law_deep.kp, b__law_deep, fn_stuck⟩, ⟨_, fd_law, _, g_law, F_law.kp, b_law, fn_stuck⟩, nofun⟩
  | succ k ih =>
    have T : ∀ N, Tbl P w K mg base k (ct0 N (fns (G k)) con) := fun N => tblP hb ih hc
    simp only [fns, List.forall_mem_cons]
    exact ⟨⟨_, fd_is_name, _, g_is_name, F_is_name.kp, b_is_name, def_ok (n := 1000) (T N_is_name) F_is_name sc_is_name rfl (cp_is_name (G k))⟩,
      ⟨_, fd_names_within, _, g_names_within, F_names_within.kp, b_names_within, def_ok (n := 1000) (T N_names_within) F_names_within sc_names_within rfl (cp_names_within (G k))⟩,
      ⟨_, fd_is_expression, _, g_is_expression, F_is_expression.kp, b_is_expression, def_ok (n := 1000) (T N_is_expression) F_is_expression sc_is_expression rfl (cp_is_expression (G k))⟩,
      ⟨_, fd_needs_in, _, g_needs_in, F_needs_in.kp, b_needs_in, def_ok (n := 1000) (T N_needs_in) F_needs_in sc_needs_in rfl (cp_needs_in (G k))⟩,
      ⟨_, fd_need_in, _, g_need_in, F_need_in.kp, b_need_in, def_ok (n := 1000) (T N_need_in) F_need_in sc_need_in rfl (cp_need_in (G k))⟩,
      ⟨_, fd_need_of, _, g_need_of, F_need_of.kp, b_need_of, def_ok (n := 1000) (T N_need_of) F_need_of sc_need_of rfl (cp_need_of (G k))⟩,
      ⟨_, fd__law_start, _, g__law_start, F__law_start.kp, b__law_start, def_ok (n := 1000) (T N__law_start) F__law_start sc__law_start rfl (cp__law_start (G k))⟩,
      ⟨_, fd__law_throw, _, g__law_throw, F__law_throw.kp, b__law_throw, def_ok (n := 1000) (T N__law_throw) F__law_throw sc__law_throw rfl (cp__law_throw (G k))⟩,
      ⟨_, fd__law_pick, _, g__law_pick, F__law_pick.kp, b__law_pick, def_ok (n := 1000) (T N__law_pick) F__law_pick sc__law_pick rfl (cp__law_pick (G k))⟩,
      ⟨_, fd__law_expression, _, g__law_expression, F__law_expression.kp, b__law_expression, def_ok (n := 1000) (T N__law_expression) F__law_expression sc__law_expression rfl (cp__law_expression (G k))⟩,
      ⟨_, fd__law_counted, _, g__law_counted, F__law_counted.kp, b__law_counted, def_ok (n := 1000) (T N__law_counted) F__law_counted sc__law_counted rfl (cp__law_counted (G k))⟩,
      ⟨_, fd__law_need, _, g__law_need, F__law_need.kp, b__law_need, def_ok (n := 1000) (T N__law_need) F__law_need sc__law_need rfl (cp__law_need (G k))⟩,
      ⟨_, fd__law_is_word, _, g__law_is_word, F__law_is_word.kp, b__law_is_word, def_ok (n := 1000) (T N__law_is_word) F__law_is_word sc__law_is_word rfl (cp__law_is_word (G k))⟩,
      ⟨_, fd__law_is_formed, _, g__law_is_formed, F__law_is_formed.kp, b__law_is_formed, def_ok (n := 1000) (T N__law_is_formed) F__law_is_formed sc__law_is_formed rfl (cp__law_is_formed (G k))⟩,
      ⟨_, fd__law_is_due, _, g__law_is_due, F__law_is_due.kp, b__law_is_due, def_ok (n := 1000) (T N__law_is_due) F__law_is_due sc__law_is_due rfl (cp__law_is_due (G k))⟩,
      ⟨_, fd__law_near, _, g__law_near, F__law_near.kp, b__law_near, def_ok (n := 1000) (T N__law_near) F__law_near sc__law_near rfl (cp__law_near (G k))⟩,
      ⟨_, fd__law_deep, _, g__law_deep, F__law_deep.kp, b__law_deep, def_ok (n := 1000) (T N__law_deep) F__law_deep sc__law_deep rfl (cp__law_deep (G k))⟩,
      ⟨_, fd_law, _, g_law, F_law.kp, b_law, def_ok (n := 1000) (T N_law) F_law sc_law rfl (cp_law (G k))⟩, nofun⟩
theorem law_facts {f : Addr} (X : K.In h) (Gn : h.Ns mainGlobals mg) (hfa : mg ("law" : Str) = some (.ref f)) (c : He.SaysD Hd.fa Hd.fn K) :
    ∃ fd : FuncData, (∀ (s : Shared) (v : Value), BindsTo s fd ⟨[v], []⟩ [("_law_script", v)]) ∧ ∀ base : Heap, K.In base → base.Ns mainGlobals mg → FnOk P w K mg base CXe 60 f fd ["_law_script"] (spF K (G 60).f_law) := by
  obtain ⟨fd, F⟩ := c.def_ 17 (d := Hd.d_law) rfl
  have e := hfa.symm.trans (He.glo_ok X Gn (c.fact 17 (f := .glo "law") rfl))
  cases e
  have b := FunD.bindsA (ps := ["_law_script"]) F fun _ _ _ _ _ _ us hl => match us, hl with | [_], _ => rfl
  refine ⟨fd, fun s v => b s [v] rfl, fun base Xb Gb => ?_⟩
  have T : ∀ N, Tbl P w K mg base 59 (ct0 N (fns (G 59)) con) := fun N => tblP (bn_ok X Gn c) (all_ok X Gn c 59) (con_ok X Gn c)
  exact fn_cx (def_ok (n := 1000) (T N_law) F sc_law rfl (cp_law (G 59)))
end
end Lw
open PySem PySem.W PySem.Calls PyProof.Rows
theorem law_end (hlaw : ∀ ns : List Int, ns.length ≤ 63 → (Lw.G 60).f_law.F [.lst (ns.map MP.D.int)] = .ok (.dat (.bl true)) []) : PySem.Challenge.rw_loadgaps_k06_needs.Holds := by
  w_on; o_law
  refine HandSHeadRun.head_any (r := OpenLaw.row PySem.Challenge.rw_loadgaps_k06_needs) (q := view (OpenLaw.row PySem.Challenge.rw_loadgaps_k06_needs).prog [28]) (H := Hd.hk) (ob := Hd.ob) (M := 20000) (loose := Hd.names) (d := HandSHeadRun.topDef (OpenLaw.row PySem.Challenge.rw_loadgaps_k06_needs).prog 28) (kwd := []) Hd.ob_eq
    (by kernel_rfl) (fun s => by kernel_rfl) Hd.run (by kernel_rfl) (by kernel_rfl) (by kernel_rfl) (by rfl) (by first | assumption | decide +kernel) (by decide +kernel) ⟨rfl, rfl, rfl, rfl, rfl, by decide +kernel⟩ ?hw ?hc
  case hw => w_witness2
  case hc =>
    refine L2.walk_ofE (l := PySem.Challenge.rw_loadgaps_k06_needs) (n := 63) (k := 60) (x := "_law_script") (CX := MP.CXe) rfl (by decide) (by kernel_rfl) ⟨rfl, by decide, by decide⟩ ?F ?Z
    case F =>
      intro w mg fa h Y Gn hmg0
      obtain ⟨K, KX, c⟩ := Y
      have hmg : mg ("law" : PySem.Str) = some (.ref fa) := by
        have e : (HandSHeadRun.topDef (OpenLaw.row PySem.Challenge.rw_loadgaps_k06_needs).prog 28).name = ("law" : PySem.Str) := by kernel_rfl
        rw [← e]
        exact hmg0
      obtain ⟨fd, hb, hF⟩ := Lw.law_facts (P := (PySem.Challenge.rw_loadgaps_k06_needs).prog) (w := w) KX Gn hmg c
      exact ⟨K, fd, _, KX, hb, fun H a ns hl _ hS => MP.law_sp hlaw H a ns hl hS, hF⟩
    case Z => exact MP.cxe_no

end
-- P0
section
namespace Lw
open PySem L2 MP
def Bag (d : D) : Prop := ∃ a b c : Int, d = .lst [.int a, .int b, .int c]
theorem throw_pos (g : Fs) (a b c t : Int) (ha : 0 < a) (ht : 0 < t) (ht2 : t.natAbs.log2 < 9000) :
    (step g).f__law_throw.F [.lst [.int a, .int b, .int c], .int t] = .ok (.dat (.int (a % t))) [.lst [.int (a / t), .int b, .int c]] := by
  have h1 : decide (0 < a) = true := decide_eq_true ha
  simp [step, runF, tm__law_throw, exs, ex, ev, evA, Rs.bind, initG, resA, res, pIx, atI, ixN, pCmp, h1, Ou.vl, store, escA, esc, isMt, pInt, pBin, ht, ht2, stL, retV, ioOut]
theorem throw_neg (g : Fs) (a b c t : Int) (ha : ¬ 0 < a) (ht : 0 < t) :
    ∃ r, (step g).f__law_throw.F [.lst [.int a, .int b, .int c], .int t] = .ok (.dat (.int (r % t))) [.lst [.int a, .int b, .int (c + 1)]] := by
  have h1 : decide (0 < a) = false := decide_eq_false ha
  have m1 : ∀ x y : Int, mulB (x % 2305843009213693951) y = true := fun x y => by
    simp only [mulB, Bool.or_eq_true, decide_eq_true_eq]
    left; left
    have := Int.emod_nonneg x (show (2305843009213693951 : Int) ≠ 0 by decide)
    have := Int.emod_lt_of_pos x (show (0 : Int) < 2305843009213693951 by decide)
    omega
  have m2 : ∀ x y : Int, mulB (x % 2305843009213693907) y = true := fun x y => by
    simp only [mulB, Bool.or_eq_true, decide_eq_true_eq]
    left; left
    have := Int.emod_nonneg x (show (2305843009213693907 : Int) ≠ 0 by decide)
    have := Int.emod_lt_of_pos x (show (0 : Int) < 2305843009213693907 by decide)
    omega
  have m3 : ∀ y : Int, mulB 1000213 y = true := fun y => by simp [mulB]
  have m4 : ∀ y : Int, mulB 6007 y = true := fun y => by simp [mulB]
  have l1 : Nat.log2 4096 < 9000 := by decide
  simp [step, runF, tm__law_throw, exs, ex, ev, evA, Rs.bind, initG, resA, res, pIx, atI, ixN, pCmp, h1, Ou.vl, store, escA, esc, isMt, pInt, pBin, ht, m1, m2, m3, m4, l1, stL, retV, ioOut]
  exact ⟨_, rfl⟩
def ThrowOk (f : Fn) : Prop := f.io = [true, false] ∧ ∀ bg t, Bag bg → 0 < t → t.natAbs.log2 < 9000 → ∃ r bg', Bag bg' ∧ 0 ≤ r ∧ r < t ∧ f.F [bg, .int t] = .ok (.dat (.int r)) [bg']
theorem throw_ok (g : Fs) : ThrowOk (step g).f__law_throw := by
  refine ⟨rfl, fun bg t hb ht ht2 => ?_⟩
  obtain ⟨a, b, c, rfl⟩ := hb
  by_cases ha : 0 < a
  · exact ⟨_, _, ⟨_, _, _, rfl⟩, Int.emod_nonneg _ (by omega), Int.emod_lt_of_pos _ ht, throw_pos g a b c t ha ht ht2⟩
  · obtain ⟨r, h⟩ := throw_neg g a b c t ha ht
    exact ⟨_, _, ⟨_, _, _, rfl⟩, Int.emod_nonneg _ (by omega), Int.emod_lt_of_pos _ ht, h⟩
theorem log_small {n : Nat} (h : n < 2 ^ 64) : n.log2 < 9000 := by
  by_cases hn : n = 0
  · subst hn; decide
  · exact Nat.lt_of_lt_of_le ((Nat.log2_lt hn).mpr h) (by decide)
def PickOk (f : Fn) : Prop := f.io = [true, false] ∧ ∀ bg ds, Bag bg → ds ≠ [] → ds.length < 1000 → ∃ d bg', Bag bg' ∧ d ∈ ds ∧ f.F [bg, .lst ds] = .ok (.dat d) [bg']
theorem pick_ok {g : Fs} (T : ThrowOk g.f__law_throw) : PickOk (step g).f__law_pick := by
  obtain ⟨io, T⟩ := T
  refine ⟨rfl, fun bg ds hb hne hl => ?_⟩
  obtain ⟨r, bg', hb', h0, h1, e⟩ := T bg (ds.length : Int) hb (by cases ds with | nil => exact absurd rfl hne | cons _ _ => simp) (log_small (by simp; omega))
  have hr : r.toNat < ds.length := by omega
  refine ⟨ds[r.toNat], bg', hb', List.getElem_mem hr, ?_⟩
  have ix : atI ds r = some ds[r.toNat] := by
    simp only [atI, ixN]
    rw [if_pos h0, if_pos (by omega)]
    simp [hr]
  simp [step, runF, tm__law_pick, exs, ex, ev, evA, Rs.bind, initG, resA, res, pLen, Ou.vl, evCall, ioIx, io, lent, isMt, e, putA, put1, pIx, ix, retV, ioOut]
theorem start_ok (g : Fs) (ns : List Int) (at_ : Int) (h0 : 0 ≤ at_) : ∃ bg, Bag bg ∧ (step g).f__law_start.F [.lst (ns.map D.int), .int at_] = .ok (.new bg) [] := by
  suffices h : ∃ a b : Int, (step g).f__law_start.F [.lst (ns.map D.int), .int at_] = .ok (.new (.lst [.int a, .int b, .int 0])) [] by
    obtain ⟨a, b, h⟩ := h
    exact ⟨_, ⟨a, b, 0, rfl⟩, h⟩
  have m1 : pBin .Mult [.int 23, .int at_] = some (.dat (.int (23 * at_))) := pb_mul (mul_l (by decide))
  have m2 : pBin .Mult [.int 4001, .int at_] = some (.dat (.int (4001 * at_))) := pb_mul (mul_l (by decide))
  have m3 : ∀ x y : Int, pBin .Mult [.int (x % 2147483587), .int y] = some (.dat (.int (x % 2147483587 * y))) := fun x y => pb_mul (mul_mod (by decide) (by decide))
  have m4 : ∀ x : Int, pBin .Mult [.int 13, .int x] = some (.dat (.int (13 * x))) := fun x => pb_mul (mul_l (by decide))
  have d1 : ∀ x : Int, pBin .Mod [.int x, .int 2147483587] = some (.dat (.int (x % 2147483587))) := fun x => pb_mod (by decide)
  have d2 : ∀ x : Int, pBin .Mod [.int x, .int 2147483549] = some (.dat (.int (x % 2147483549))) := fun x => pb_mod (by decide)
  have p1 : pBin .Pow [.int 10, .int 60] = some (.dat (.int (10 ^ 60))) := by kernel_rfl
  have p2 : pBin .Pow [.int (10 ^ 60), .int 12] = some (.dat (.int ((10 ^ 60) ^ 12))) := by kernel_rfl
  have p3 : pBin .Pow [.int 10, .int 18] = some (.dat (.int (10 ^ 18))) := by kernel_rfl
  have p4 : (0 : Int) < (10 ^ 60) ^ 12 := by decide +kernel
  generalize (10 ^ 60 : Int) = P60 at p1 p2 p4
  generalize P60 ^ 12 = PP at p2 p4
  generalize (10 ^ 18 : Int) = P18 at p3
  have pm : ∀ x : Int, pBin .Mod [.int x, .int PP] = some (.dat (.int (x % PP))) := fun x => pb_mod p4
  by_cases hl : at_ < (ns.length : Int)
  · have hr : at_.toNat < ns.length := by omega
    have ix : atI (ns.map D.int) at_ = some (.int ns[at_.toNat]) := by
      simp only [atI, ixN]
      rw [if_pos h0, if_pos (by simp; omega)]
      simp [hr]
    generalize ns[at_.toNat] = x at ix
    simp [step, runF, tm__law_start, exs, ex, ev, evA, Rs.bind, initG, resA, res, pLen, Ou.vl, pIx, ix, hl, pCmp, store, esc, escA, pAbs, pInt, p1, p2, p3, pm, m1, m2, m3, m4, d1, d2, pb_add, pb_sub, pMax, dLst, LIM, retV, ioOut]
  · simp [step, runF, tm__law_start, exs, ex, ev, evA, Rs.bind, initG, resA, res, pLen, Ou.vl, pIx, hl, pCmp, store, esc, escA, pAbs, pInt, p1, p2, p3, pm, m1, m2, m3, m4, d1, d2, pb_add, pb_sub, pMax, dLst, LIM, retV, ioOut]
end Lw

end
-- P1
section
namespace Lw
open PySem L2 MP
def letters : Str := "abcdefghijklmnopqrstuvwxyz"
/-- the values that this law draws -/
inductive Val : D → Prop
  | non : Val .non
  | bl (b : Bool) : Val (.bl b)
  | int (i : Int) : Val (.int i)
  | str (x : Str) : x.length ≤ 20 → Val (.str x)
  | tup (xs : List D) : (∀ x ∈ xs, Val x) → Val (.tup xs)
  | lst (xs : List D) : (∀ x ∈ xs, Val x) → Val (.lst xs)
  | dct (ks vs : List D) : Val (.dct ks vs)
theorem Val.noObj {v : D} (h : Val v) : isObjD v = false := by cases h <;> rfl
def wordS (x : Str) : Bool := decide (1 ≤ (x.length : Int)) && decide ((x.length : Int) ≤ 8) && x.cps.toList.all fun c => decide (c ∈ letters.cps.toList)
def word : D → Bool
  | .str x => wordS x
  | _ => false
theorem in_sign (neg : Bool) (c : Nat) (z : Str) : pIn neg (.str ⟨#[c]⟩) (.str z) = some (.dat (.bl (if neg then !decide (c ∈ z.cps.toList) else decide (c ∈ z.cps.toList)))) := by
  have h1 : (⟨#[c]⟩ : Str).length = 1 := rfl
  simp only [pIn, h1, if_true]
  simp
def isTupD : D → Bool
  | .tup _ => true
  | _ => false
def isStrD : D → Bool
  | .str _ => true
  | _ => false
theorem isi_str (v : D) (h : isObjD v = false) : pIsi "str" [v] = some (.dat (.bl (isStrD v))) := by
  cases v <;> first | rfl | cases h
theorem isi_tup (v : D) (h : isObjD v = false) : pIsi "tuple" [v] = some (.dat (.bl (isTupD v))) := by
  cases v <;> first | rfl | cases h
theorem all_map_bl (l : List Nat) (p : Nat → Bool) : bools? (l.map fun c => D.bl (p c)) = some (l.map p) := by
  induction l with
  | nil => rfl
  | cons a l ih => simp [bools?, ih]
def NameOk (f : Fn) : Prop := f.io = [false] ∧ ∀ v, Val v → f.F [v] = .ok (.dat (.bl (word v))) []
theorem is_name_ok (g : Fs) : NameOk (step g).f_is_name := by
  refine ⟨rfl, fun v hv => ?_⟩
  have no := hv.noObj
  have is := isi_str v no
  cases v with
  | str x =>
    have hx : x.length ≤ 20 := by cases hv; assumption
    have hL : x.length ≤ LIM := Nat.le_trans hx (by decide)
    have sl : (strD x).length ≤ LIM := by simp only [strD, List.length_map]; simpa [Str.length] using hL
    have lp := ev_lc (Γ := [.dat (.str x), .no]) (g := gSeq) (as := .cons (.var 0) .nil) (tg := .nm 1) (own := [1]) (c := .con (.bl true)) (e := .prim (pCmp .In) (.cons (.var 1) (.cons (.con (.str "abcdefghijklmnopqrstuvwxyz")) .nil)))
      (ls := [.dat (.str x)]) (Γ1 := [.dat (.str x), .no]) (Γ2 := [.dat (.str x), .no]) (acc := x.cps.toList.map fun c => D.bl (decide (c ∈ letters.cps.toList))) rfl rfl rfl sl rfl (by
        have := lc_map (ec := ev (.con (.bl true))) (ee := ev (.prim (pCmp .In) (.cons (.var 1) (.cons (.con (.str "abcdefghijklmnopqrstuvwxyz")) .nil)))) (tg := .nm 1) (own := [1]) (Γ := [.dat (.str x), .no]) (xs := strD x)
          (f := fun d => match d with | .str ⟨cs⟩ => .bl (decide (cs.getD 0 0 ∈ letters.cps.toList)) | _ => .non) (fun d hd => by
            simp only [strD, List.mem_map] at hd
            obtain ⟨c, _, rfl⟩ := hd
            refine ⟨[.dat (.str x), .dat (.str ⟨#[c]⟩)], rfl, rfl, ?_, rfl⟩
            simp [ev, evA, Rs.bind, resA, res, pCmp, in_sign, Ou.vl, letters])
        refine this.trans ?_
        rw [strD, List.map_map]
        simp)
    rw [show keepG [1] [Slot.dat (D.str x), Slot.no] (unlockA (locks [Slot.dat (D.str x), Slot.no] [Vl.dat (D.str x)]) [Slot.dat (D.str x), Slot.no]) = [.dat (.str x), .no] from rfl] at lp
    cases c1 : decide (1 ≤ (x.length : Int)) with
    | false => simp [step, runF, tm_is_name, ex_set, ex_ret, ex_ite, ex_drop, ex_sub, ex_par, ex_unp, exs_nil, exs_cons, ev_var, ev_con, ev_prim, ev_mk, ev_call, ev_and, ev_or, ev_not, ev_ifx, ev_chn, evA_nil, evA_cons, bind_ok, initG, resA, res, is, isStrD, Ou.vl, pLen, hL, pCmp, c1, retV, ioOut, word, wordS]
    | true =>
      cases c2 : decide ((x.length : Int) ≤ 8) with
      | false => simp [step, runF, tm_is_name, ex_set, ex_ret, ex_ite, ex_drop, ex_sub, ex_par, ex_unp, exs_nil, exs_cons, ev_var, ev_con, ev_prim, ev_mk, ev_call, ev_and, ev_or, ev_not, ev_ifx, ev_chn, evA_nil, evA_cons, bind_ok, initG, resA, res, is, isStrD, Ou.vl, pLen, hL, pCmp, c1, c2, retV, ioOut, word, wordS]
      | true =>
        simp [step, runF, tm_is_name, ex_set, ex_ret, ex_ite, ex_drop, ex_sub, ex_par, ex_unp, exs_nil, exs_cons, ev_var, ev_con, ev_prim, ev_mk, ev_call, ev_and, ev_or, ev_not, ev_ifx, ev_chn, evA_nil, evA_cons, bind_ok, initG, resA, res, is, isStrD, Ou.vl, pLen, hL, pCmp, c1, c2, retV, ioOut, word, wordS, lp, pAll, all_map_bl]
  | _ => simp [step, runF, tm_is_name, ex_set, ex_ret, ex_ite, ex_drop, ex_sub, ex_par, ex_unp, exs_nil, exs_cons, ev_var, ev_con, ev_prim, ev_mk, ev_call, ev_and, ev_or, ev_not, ev_ifx, ev_chn, evA_nil, evA_cons, bind_ok, initG, resA, res, is, isStrD, Ou.vl, retV, ioOut, word]
def formed : Nat → D → Bool
  | 0, _ => false
  | n + 1, v => word v || (match v with
    | .tup xs => decide (n ≠ 0) && (decide (1 ≤ (xs.length : Int)) && decide ((xs.length : Int) ≤ 3)) && xs.all (formed n)
    | _ => false)
def count : Nat → D → Int
  | 0, _ => 0
  | n + 1, v => match v with
    | .tup xs => (xs.map (count n)).sum
    | .str _ => 1
    | _ => 0
def nw (n : Nat) (v : D) : Option Int := if formed n v then some (count n v) else none
def tru (b : Bool) : pTru [.bl b] = some (.dat (.bl b)) := rfl
theorem call1 {f : Fn} {d : D} {o : Ou} {Γ : List Slot} (io : f.io = [false]) (h : f.F [d] = .ok o []) : evCall f [.dat d] Γ = .ok o.vl Γ := by
  simp [evCall, resA, res, ioIx, io, h, lent, putA]
theorem call2 {f : Fn} {d e : D} {o : Ou} {Γ : List Slot} (io : f.io = [false, false]) (h : f.F [d, e] = .ok o []) : evCall f [.dat d, .dat e] Γ = .ok o.vl Γ := by
  simp [evCall, resA, res, ioIx, io, h, lent, putA]
theorem word_tup (xs : List D) : word (.tup xs) = false := rfl
def NwOk (n : Nat) (f : Fn) : Prop := f.io = [false, false] ∧ ∀ v, Val v → f.F [v, .int n] = .ok (.dat (oD (nw n v))) []
theorem names_ok {g : Fs} (N : NameOk g.f_is_name) (n : Nat) (W : n = 0 ∨ NwOk n g.f_names_within) : NwOk (n + 1) (step g).f_names_within := by
  refine ⟨rfl, fun v hv => ?_⟩
  have nm := fun Γ => call1 (Γ := Γ) N.1 (N.2 v hv)
  have it := isi_tup v hv.noObj
  have hm : (((n + 1 : Nat) : Int) == 1) = decide (n = 0) := by
    by_cases h : n = 0
    · subst h; rfl
    · simp [h]; omega
  have hs : ((n + 1 : Nat) : Int) - 1 = n := by omega
  generalize ((n + 1 : Nat) : Int) = m at hm hs
  cases hw : word v with
  | true =>
    have e : nw (n + 1) v = some 1 := by
      cases v with
      | str x => simp [nw, formed, hw, count]
      | _ => cases hw
    simp [step, runF, tm_names_within, ex_set, ex_ret, ex_ite, ex_drop, ex_sub, ex_par, ex_unp, exs_nil, exs_cons, ev_var, ev_con, ev_prim, ev_mk, ev_call, ev_and, ev_or, ev_not, ev_ifx, ev_chn, evA_nil, evA_cons, bind_ok, initG, resA, res, Ou.vl, nm, hw, tru, retV, ioOut, e, oD]
  | false =>
    have fin : isTupD v = false → nw (n + 1) v = none := fun q => by
      cases v <;> first | (simp [nw, formed, hw]; done) | cases q
    by_cases hn : n = 0
    · have e : nw (n + 1) v = none := by cases v <;> simp [nw, formed, hw, hn]
      have hm' : (m == 1) = true := by rw [hm]; simp [hn]
      simp [step, runF, tm_names_within, ex_set, ex_ret, ex_ite, ex_drop, ex_sub, ex_par, ex_unp, exs_nil, exs_cons, ev_var, ev_con, ev_prim, ev_mk, ev_call, ev_and, ev_or, ev_not, ev_ifx, ev_chn, evA_nil, evA_cons, bind_ok, initG, resA, res, Ou.vl, nm, hw, tru, retV, ioOut, e, oD, eqInt, hm']
    · have hm' : (m == 1) = false := by rw [hm]; simp [hn]
      cases v with
      | tup xs =>
        have hxs : ∀ x ∈ xs, Val x := by cases hv; assumption
        have W := W.resolve_left hn
        cases c1 : decide (1 ≤ (xs.length : Int)) with
        | false =>
          have e : nw (n + 1) (.tup xs) = none := by simp [nw, formed, hw, c1]
          simp [step, runF, tm_names_within, ex_set, ex_ret, ex_ite, ex_drop, ex_sub, ex_par, ex_unp, exs_nil, exs_cons, ev_var, ev_con, ev_prim, ev_mk, ev_call, ev_and, ev_or, ev_not, ev_ifx, ev_chn, evA_nil, evA_cons, bind_ok, initG, resA, res, Ou.vl, nm, hw, tru, retV, ioOut, e, oD, eqInt, hm', it, isTupD, pLen, le_i, c1]
        | true =>
          cases c2 : decide ((xs.length : Int) ≤ 3) with
          | false =>
            have e : nw (n + 1) (.tup xs) = none := by simp [nw, formed, hw, c1, c2]
            simp [step, runF, tm_names_within, ex_set, ex_ret, ex_ite, ex_drop, ex_sub, ex_par, ex_unp, exs_nil, exs_cons, ev_var, ev_con, ev_prim, ev_mk, ev_call, ev_and, ev_or, ev_not, ev_ifx, ev_chn, evA_nil, evA_cons, bind_ok, initG, resA, res, Ou.vl, nm, hw, tru, retV, ioOut, e, oD, eqInt, hm', it, isTupD, pLen, le_i, c1, c2]
          | true =>
            have l3 : xs.length ≤ LIM := by have := of_decide_eq_true c2; exact Nat.le_trans (show xs.length ≤ 3 by omega) (by decide)
            have lp := lc_one_map (Γ := [.dat (.tup xs), .dat (.int m), .no, .no]) (g := gSeq) (as := .cons (.var 0) .nil) (j := 3) (e := .call g.f_names_within (.cons (.var 3) (.cons (.prim (pBin .Sub) (.cons (.var 1) (.cons (.con (.int 1)) .nil))) .nil)))
              (ls := [.dat (.tup xs)]) (f := fun x => oD (nw n x)) rfl rfl rfl rfl l3 rfl (fun x hx => by
                have c := fun Γ => call2 (Γ := Γ) W.1 (W.2 x (hxs x hx))
                simp [ev_var, ev_con, ev_prim, ev_mk, ev_call, ev_and, ev_or, ev_not, ev_ifx, ev_chn, evA_nil, evA_cons, bind_ok, resA, res, pb_sub, hs, Ou.vl, c])
            have mm : xs.map (fun x => oD (nw n x)) = (xs.map (nw n)).map oD := by rw [List.map_map]; rfl
            rw [mm] at lp
            have av : (xs.map (nw n)).any Option.isNone = !xs.all (formed n) := by
              rw [List.any_map, List.not_all_eq_any_not]
              congr 1
              funext x
              simp only [Function.comp, nw]
              cases formed n x <;> rfl
            have inn := in_none (xs.map (nw n))
            rw [av] at inn
            cases c3 : xs.all (formed n) with
            | false =>
              rw [c3] at inn
              have e : nw (n + 1) (.tup xs) = none := by simp [nw, formed, hw, c3]
              generalize (xs.map (nw n)).map oD = fo at lp inn
              simp [step, runF, tm_names_within, ex_set, ex_ret, ex_ite, ex_drop, ex_sub, ex_par, ex_unp, exs_nil, exs_cons, ev_var, ev_con, ev_prim, ev_mk, ev_call, ev_and, ev_or, ev_not, ev_ifx, ev_chn, evA_nil, evA_cons, bind_ok, initG, resA, res, Ou.vl, nm, hw, tru, retV, ioOut, e, eqInt, hm', it, isTupD, pLen, le_i, c1, c2, lp, store, inn]
              rfl
            | true =>
              rw [c3] at inn
              have sm : pSum [.lst ((xs.map (nw n)).map oD)] = some (.dat (.int ((xs.map (count n)).sum))) := by
                have := ints_some (xs.map (nw n)) (by rw [av, c3]; rfl)
                have e2 : (xs.map (nw n)).map (·.getD 0) = xs.map (count n) := by
                  rw [List.map_map]
                  refine List.map_congr_left fun x hx => ?_
                  have := List.all_eq_true.mp c3 x hx
                  simp [nw, this]
                rw [e2] at this
                unfold pSum
                dsimp only
                rw [this]
              have e : nw (n + 1) (.tup xs) = some ((xs.map (count n)).sum) := by simp [nw, formed, hw, c1, c2, c3, hn, count]
              generalize (xs.map (nw n)).map oD = fo at lp inn sm
              simp [step, runF, tm_names_within, ex_set, ex_ret, ex_ite, ex_drop, ex_sub, ex_par, ex_unp, exs_nil, exs_cons, ev_var, ev_con, ev_prim, ev_mk, ev_call, ev_and, ev_or, ev_not, ev_ifx, ev_chn, evA_nil, evA_cons, bind_ok, initG, resA, res, Ou.vl, nm, hw, tru, retV, ioOut, e, eqInt, hm', it, isTupD, pLen, le_i, c1, c2, lp, store, inn, sm]
              rfl
      | _ => simp [step, runF, tm_names_within, ex_set, ex_ret, ex_ite, ex_drop, ex_sub, ex_par, ex_unp, exs_nil, exs_cons, ev_var, ev_con, ev_prim, ev_mk, ev_call, ev_and, ev_or, ev_not, ev_ifx, ev_chn, evA_nil, evA_cons, bind_ok, initG, resA, res, Ou.vl, nm, hw, tru, retV, ioOut, fin rfl, oD, it, isTupD, eqInt, hm']
end Lw

end
-- P2
section
namespace Lw
open PySem L2 MP
def due (v : D) : Bool := formed 8 v && decide (count 8 v ≤ 30)
def DueOk (f : Fn) : Prop := f.io = [false] ∧ ∀ v, Val v → f.F [v] = .ok (.dat (.bl (due v))) []
theorem is_expr_ok {g : Fs} (W : NwOk 8 g.f_names_within) : DueOk (step g).f_is_expression := by
  refine ⟨rfl, fun v hv => ?_⟩
  have c : ∀ Γ, evCall g.f_names_within [.dat v, .dat (.int 8)] Γ = .ok (Ou.dat (oD (nw 8 v))).vl Γ := fun Γ => call2 (Γ := Γ) W.1 (W.2 v hv)
  cases h : formed 8 v with
  | false =>
    have e : nw 8 v = none := by simp [nw, h]
    simp [step, runF, tm_is_expression, ex_set, ex_ret, ex_ite, ex_drop, ex_sub, ex_par, ex_unp, exs_nil, exs_cons, ev_var, ev_con, ev_prim, ev_mk, ev_call, ev_and, ev_or, ev_not, ev_ifx, ev_chn, evA_nil, evA_cons, bind_ok, initG, resA, res, Ou.vl, c, e, oD, store, esc, retV, ioOut, isnot_n, due, h, MP.isNon]
  | true =>
    have e : nw 8 v = some (count 8 v) := by simp [nw, h]
    simp [step, runF, tm_is_expression, ex_set, ex_ret, ex_ite, ex_drop, ex_sub, ex_par, ex_unp, exs_nil, exs_cons, ev_var, ev_con, ev_prim, ev_mk, ev_call, ev_and, ev_or, ev_not, ev_ifx, ev_chn, evA_nil, evA_cons, bind_ok, initG, resA, res, Ou.vl, c, e, oD, store, esc, retV, ioOut, isnot_n, due, h, MP.isNon, le_i]
theorem is_word_ok (g : Fs) : NameOk (step g).f__law_is_word := by
  refine ⟨rfl, fun v hv => ?_⟩
  have no := hv.noObj
  have is := isi_str v no
  cases v with
  | str x =>
    have hx : x.length ≤ 20 := by cases hv; assumption
    have hL : x.length ≤ LIM := Nat.le_trans hx (by decide)
    have sl : (strD x).length ≤ LIM := by simp only [strD, List.length_map]; simpa [Str.length] using hL
    have lp := lc_one (Γ := [.dat (.str x), .no]) (g := gSeq) (as := .cons (.var 0) .nil) (j := 1) (c := .prim (pCmp .NotIn) (.cons (.var 1) (.cons (.con (.str "abcdefghijklmnopqrstuvwxyz")) .nil))) (e := .var 1)
      (ls := [.dat (.str x)]) (p := fun d => match d with | .str ⟨cs⟩ => !decide (cs.getD 0 0 ∈ letters.cps.toList) | _ => false) (f := fun d => d) rfl rfl rfl rfl sl rfl (fun d hd => by
        simp only [strD, List.mem_map] at hd
        obtain ⟨c, _, rfl⟩ := hd
        refine ⟨?_, fun _ => rfl⟩
        simp [ev_var, ev_con, ev_prim, ev_mk, ev_call, ev_and, ev_or, ev_not, ev_ifx, ev_chn, evA_nil, evA_cons, bind_ok, resA, res, pCmp, in_sign, Ou.vl, letters])
    have em : ((strD x).filter (fun d => match d with | .str ⟨cs⟩ => !decide (cs.getD 0 0 ∈ letters.cps.toList) | _ => false)).isEmpty = x.cps.toList.all fun c => decide (c ∈ letters.cps.toList) := by
      rw [strD]
      induction x.cps.toList with
      | nil => rfl
      | cons c l ih =>
        rw [List.map_cons, List.all_cons, List.filter_cons]
        by_cases q : c ∈ letters.cps.toList
        · simp only [decide_eq_true q, Bool.true_and]
          rw [if_neg (by simp [q]), ih]
        · simp only [decide_eq_false q, Bool.false_and]
          rw [if_pos (by simp [q])]
          rfl
    simp only [List.map_id'] at lp
    generalize ((strD x).filter (fun d => match d with | .str ⟨cs⟩ => !decide (cs.getD 0 0 ∈ letters.cps.toList) | _ => false)) = fl at lp em
    cases c1 : decide (1 ≤ (x.length : Int)) with
    | false => simp [step, runF, tm__law_is_word, ex_set, ex_ret, ex_ite, ex_drop, ex_sub, ex_par, ex_unp, exs_nil, exs_cons, ev_var, ev_con, ev_prim, ev_mk, ev_call, ev_and, ev_or, ev_not, ev_ifx, ev_chn, evA_nil, evA_cons, bind_ok, initG, resA, res, is, isStrD, Ou.vl, pLen, hL, le_i, c1, retV, ioOut, word, wordS, tru]
    | true =>
      cases c2 : decide ((x.length : Int) ≤ 8) with
      | false => simp [step, runF, tm__law_is_word, ex_set, ex_ret, ex_ite, ex_drop, ex_sub, ex_par, ex_unp, exs_nil, exs_cons, ev_var, ev_con, ev_prim, ev_mk, ev_call, ev_and, ev_or, ev_not, ev_ifx, ev_chn, evA_nil, evA_cons, bind_ok, initG, resA, res, is, isStrD, Ou.vl, pLen, hL, le_i, c1, c2, retV, ioOut, word, wordS, tru]
      | true => simp [step, runF, tm__law_is_word, ex_set, ex_ret, ex_ite, ex_drop, ex_sub, ex_par, ex_unp, exs_nil, exs_cons, ev_var, ev_con, ev_prim, ev_mk, ev_call, ev_and, ev_or, ev_not, ev_ifx, ev_chn, evA_nil, evA_cons, bind_ok, initG, resA, res, is, isStrD, Ou.vl, pLen, hL, le_i, c1, c2, retV, ioOut, word, wordS, tru, lp, escA, dLst, pEq_nil, em]
  | _ => simp [step, runF, tm__law_is_word, ex_set, ex_ret, ex_ite, ex_drop, ex_sub, ex_par, ex_unp, exs_nil, exs_cons, ev_var, ev_con, ev_prim, ev_mk, ev_call, ev_and, ev_or, ev_not, ev_ifx, ev_chn, evA_nil, evA_cons, bind_ok, initG, resA, res, is, isStrD, Ou.vl, retV, ioOut, word, tru]
theorem not_in3 (k : Int) : pCmp .NotIn [.int k, .tup [.int 1, .int 2, .int 3]] = some (.dat (.bl (!(decide (1 ≤ k) && decide (k ≤ 3))))) := by
  have : pCmp .NotIn [.int k, .tup [.int 1, .int 2, .int 3]] = some (.dat (.bl (!((1 == k) || ((2 == k) || ((3 == k) || false)))))) := rfl
  rw [this]
  congr 4
  by_cases h1 : k = 1
  · subst h1; rfl
  by_cases h2 : k = 2
  · subst h2; rfl
  by_cases h3 : k = 3
  · subst h3; rfl
  have : (decide (1 ≤ k) && decide (k ≤ 3)) = false := by simp; omega
  rw [this]
  simp
  omega
theorem filt_em (p : D → Bool) : ∀ xs : List D, (xs.filter fun x => !p x).isEmpty = xs.all p
  | [] => rfl
  | x :: l => by
    rw [List.all_cons, List.filter_cons]
    cases q : p x with
    | true => simpa using filt_em p l
    | false => rfl
def FormOk (n : Nat) (f : Fn) : Prop := f.io = [false, false] ∧ ∀ v, Val v → f.F [v, .int n] = .ok (.dat (.bl (formed n v))) []
theorem formed_ok {g : Fs} (N : NameOk g.f__law_is_word) (n : Nat) (W : n = 0 ∨ FormOk n g.f__law_is_formed) : FormOk (n + 1) (step g).f__law_is_formed := by
  refine ⟨rfl, fun v hv => ?_⟩
  have nm := fun Γ => call1 (Γ := Γ) N.1 (N.2 v hv)
  have it := isi_tup v hv.noObj
  have hm : (((n + 1 : Nat) : Int) == 1) = decide (n = 0) := by
    by_cases h : n = 0
    · subst h; rfl
    · simp [h]; omega
  have hs : ((n + 1 : Nat) : Int) - 1 = n := by omega
  generalize ((n + 1 : Nat) : Int) = m at hm hs
  cases hw : word v with
  | true => simp [step, runF, tm__law_is_formed, ex_set, ex_ret, ex_ite, ex_drop, ex_sub, ex_par, ex_unp, exs_nil, exs_cons, ev_var, ev_con, ev_prim, ev_mk, ev_call, ev_and, ev_or, ev_not, ev_ifx, ev_chn, evA_nil, evA_cons, bind_ok, initG, resA, res, Ou.vl, nm, hw, tru, retV, ioOut, formed]
  | false =>
    have fin : isTupD v = false → formed (n + 1) v = false := fun q => by
      cases v <;> first | (simp [formed, hw]; done) | cases q
    by_cases hn : n = 0
    · have e : formed (n + 1) v = false := by cases v <;> simp [formed, hw, hn]
      have hm' : (m == 1) = true := by rw [hm]; simp [hn]
      simp [step, runF, tm__law_is_formed, ex_set, ex_ret, ex_ite, ex_drop, ex_sub, ex_par, ex_unp, exs_nil, exs_cons, ev_var, ev_con, ev_prim, ev_mk, ev_call, ev_and, ev_or, ev_not, ev_ifx, ev_chn, evA_nil, evA_cons, bind_ok, initG, resA, res, Ou.vl, nm, hw, tru, retV, ioOut, e, eqInt, hm']
    · have hm' : (m == 1) = false := by rw [hm]; simp [hn]
      cases v with
      | tup xs =>
        have hxs : ∀ x ∈ xs, Val x := by cases hv; assumption
        have W := W.resolve_left hn
        have dt : dTup [.int 1, .int 2, .int 3] = some (.dat (.tup [.int 1, .int 2, .int 3])) := rfl
        have ni := not_in3 xs.length
        cases c1 : (decide (1 ≤ (xs.length : Int)) && decide ((xs.length : Int) ≤ 3)) with
        | false =>
          rw [c1] at ni
          have e : formed (n + 1) (.tup xs) = false := by simp only [formed, hw, c1]; simp
          simp [step, runF, tm__law_is_formed, ex_set, ex_ret, ex_ite, ex_drop, ex_sub, ex_par, ex_unp, exs_nil, exs_cons, ev_var, ev_con, ev_prim, ev_mk, ev_call, ev_and, ev_or, ev_not, ev_ifx, ev_chn, evA_nil, evA_cons, bind_ok, initG, resA, res, Ou.vl, nm, hw, tru, retV, ioOut, e, eqInt, hm', it, isTupD, pLen, escA, esc, dt, ni]
        | true =>
          rw [c1] at ni
          have l3 : xs.length ≤ LIM := by
            simp only [Bool.and_eq_true, decide_eq_true_eq] at c1
            exact Nat.le_trans (show xs.length ≤ 3 by omega) (by decide)
          have lp := lc_one (Γ := [.dat (.tup xs), .dat (.int m), .no]) (g := gSeq) (as := .cons (.var 0) .nil) (j := 2) (c := .not (.prim pTru (.cons (.call g.f__law_is_formed (.cons (.var 2) (.cons (.prim (pBin .Sub) (.cons (.var 1) (.cons (.con (.int 1)) .nil))) .nil))) .nil))) (e := .var 2)
            (ls := [.dat (.tup xs)]) (p := fun x => !formed n x) (f := fun d => d) rfl rfl rfl rfl l3 rfl (fun x hx => by
              have c := fun Γ => call2 (Γ := Γ) W.1 (W.2 x (hxs x hx))
              refine ⟨?_, fun _ => rfl⟩
              simp [ev_var, ev_con, ev_prim, ev_mk, ev_call, ev_and, ev_or, ev_not, ev_ifx, ev_chn, evA_nil, evA_cons, bind_ok, resA, res, pb_sub, hs, Ou.vl, c, tru])
          simp only [List.map_id'] at lp
          have em := filt_em (formed n) xs
          generalize (xs.filter fun x => !formed n x) = fl at lp em
          have e : formed (n + 1) (.tup xs) = xs.all (formed n) := by simp only [formed, hw, c1]; simp [hn]
          simp [step, runF, tm__law_is_formed, ex_set, ex_ret, ex_ite, ex_drop, ex_sub, ex_par, ex_unp, exs_nil, exs_cons, ev_var, ev_con, ev_prim, ev_mk, ev_call, ev_and, ev_or, ev_not, ev_ifx, ev_chn, evA_nil, evA_cons, bind_ok, initG, resA, res, Ou.vl, nm, hw, tru, retV, ioOut, e, eqInt, hm', it, isTupD, pLen, escA, esc, dt, ni, lp, dLst, pEq_nil, em]
      | _ => simp [step, runF, tm__law_is_formed, ex_set, ex_ret, ex_ite, ex_drop, ex_sub, ex_par, ex_unp, exs_nil, exs_cons, ev_var, ev_con, ev_prim, ev_mk, ev_call, ev_and, ev_or, ev_not, ev_ifx, ev_chn, evA_nil, evA_cons, bind_ok, initG, resA, res, Ou.vl, nm, hw, tru, retV, ioOut, fin rfl, it, isTupD, eqInt, hm']
end Lw

end
-- P3
section
namespace Lw
open PySem L2 MP
theorem formed_tup {n : Nat} {xs : List D} (h : formed (n + 1) (.tup xs) = true) : xs ≠ [] ∧ xs.length ≤ 3 ∧ ∀ x ∈ xs, formed n x = true := by
  simp only [formed, word, Bool.false_or, Bool.and_eq_true, decide_eq_true_eq] at h
  obtain ⟨⟨_, h1, h2⟩, h3⟩ := h
  refine ⟨fun z => ?_, by omega, fun x hx => List.all_eq_true.mp h3 x hx⟩
  subst z
  simp at h1
theorem formed_shape {n : Nat} {v : D} (h : formed n v = true) : (∃ x, v = .str x) ∨ ∃ xs, v = .tup xs := by
  cases n with
  | zero => cases h
  | succ n => cases v <;> first | exact .inl ⟨_, rfl⟩ | exact .inr ⟨_, rfl⟩ | simp [formed, word] at h
def CountOk (n : Nat) (f : Fn) : Prop := f.io = [false] ∧ ∀ v, Val v → formed n v = true → f.F [v] = .ok (.dat (.int (count n v))) []
theorem counted_ok {g : Fs} (n : Nat) (W : CountOk n g.f__law_counted) : CountOk (n + 1) (step g).f__law_counted := by
  refine ⟨rfl, fun v hv hf => ?_⟩
  have is := isi_str v hv.noObj
  rcases formed_shape hf with ⟨x, rfl⟩ | ⟨xs, rfl⟩
  · simp [step, runF, tm__law_counted, ex_set, ex_ret, ex_ite, ex_drop, ex_sub, ex_par, ex_unp, exs_nil, exs_cons, ev_var, ev_con, ev_prim, ev_mk, ev_call, ev_and, ev_or, ev_not, ev_ifx, ev_chn, evA_nil, evA_cons, bind_ok, initG, resA, res, is, isStrD, Ou.vl, tru, retV, ioOut, count]
  · have hxs : ∀ x ∈ xs, Val x := by cases hv; assumption
    obtain ⟨f1, f2, f3⟩ := formed_tup hf
    have lp := lc_one_map (Γ := [.dat (.tup xs), .no]) (g := gSeq) (as := .cons (.var 0) .nil) (j := 1) (e := .call g.f__law_counted (.cons (.var 1) .nil))
      (ls := [.dat (.tup xs)]) (f := fun x => D.int (count n x)) rfl rfl rfl rfl (Nat.le_trans f2 (by decide)) rfl (fun x hx => by
        have c := fun Γ => call1 (Γ := Γ) W.1 (W.2 x (hxs x hx) (f3 x hx))
        simp [ev_var, ev_con, ev_prim, ev_mk, ev_call, ev_and, ev_or, ev_not, ev_ifx, ev_chn, evA_nil, evA_cons, bind_ok, Ou.vl, c])
    have sm : pSum [.lst (xs.map fun x => D.int (count n x))] = some (.dat (.int (xs.map (count n)).sum)) := by
      unfold pSum
      dsimp only
      rw [ints_map]
    generalize (xs.map fun x => D.int (count n x)) = fl at lp sm
    simp [step, runF, tm__law_counted, ex_set, ex_ret, ex_ite, ex_drop, ex_sub, ex_par, ex_unp, exs_nil, exs_cons, ev_var, ev_con, ev_prim, ev_mk, ev_call, ev_and, ev_or, ev_not, ev_ifx, ev_chn, evA_nil, evA_cons, bind_ok, initG, resA, res, is, isStrD, Ou.vl, tru, retV, ioOut, count, lp, sm]
theorem due_ok {g : Fs} (F : FormOk 8 g.f__law_is_formed) (C : CountOk 8 g.f__law_counted) : DueOk (step g).f__law_is_due := by
  refine ⟨rfl, fun v hv => ?_⟩
  have c : ∀ Γ, evCall g.f__law_is_formed [.dat v, .dat (.int 8)] Γ = .ok (Ou.dat (.bl (formed 8 v))).vl Γ := fun Γ => call2 (Γ := Γ) F.1 (F.2 v hv)
  cases h : formed 8 v with
  | false => simp [step, runF, tm__law_is_due, ex_set, ex_ret, ex_ite, ex_drop, ex_sub, ex_par, ex_unp, exs_nil, exs_cons, ev_var, ev_con, ev_prim, ev_mk, ev_call, ev_and, ev_or, ev_not, ev_ifx, ev_chn, evA_nil, evA_cons, bind_ok, initG, resA, res, Ou.vl, c, h, retV, ioOut, due]
  | true =>
    have c2 := fun Γ => call1 (Γ := Γ) C.1 (C.2 v hv h)
    simp [step, runF, tm__law_is_due, ex_set, ex_ret, ex_ite, ex_drop, ex_sub, ex_par, ex_unp, exs_nil, exs_cons, ev_var, ev_con, ev_prim, ev_mk, ev_call, ev_and, ev_or, ev_not, ev_ifx, ev_chn, evA_nil, evA_cons, bind_ok, initG, resA, res, Ou.vl, c, c2, h, retV, ioOut, due, le_i]
/-! needs -/
def mx : List Int → Int
  | [] => 0
  | m :: r => maxI m r
def enumAdd (ns : List Int) : List Int := ns.mapIdx fun i x => x + (i : Nat)
def nd : Nat → D → Int
  | 0, _ => 0
  | n + 1, v => match v with
    | .tup xs => mx (enumAdd (isort (xs.map (nd n))).reverse)
    | _ => 1
theorem pMax_ints {l : List Int} (h : l ≠ []) : pMax [.lst (l.map D.int)] = some (.dat (.int (mx l))) := by
  cases l with
  | nil => exact absurd rfl h
  | cons m r =>
    unfold pMax
    dsimp only
    rw [ints?_map]
    rfl
theorem isort_ne {l : List Int} (h : l ≠ []) : isort l ≠ [] := fun z => by
  have := (isort_perm l).length_eq
  rw [z] at this
  cases l with
  | nil => exact h rfl
  | cons _ _ => simp at this
theorem isort_neg (l : List Int) : isort (l.map fun x => 0 - x) = ((isort l).reverse).map fun x => 0 - x := by
  refine (isort_uniq ?_ ?_).symm
  · exact ((List.reverse_perm _).trans (isort_perm l)).map _
  · rw [List.pairwise_map, List.pairwise_reverse]
    exact (isort_srt l).imp fun h => by omega
def NeedOk (n : Nat) (f : Fn) : Prop := f.io = [false] ∧ ∀ v, Val v → formed n v = true → f.F [v] = .ok (.dat (.int (nd n v))) []
def NeedsOk (n : Nat) (f : Fn) : Prop := f.io = [false] ∧ ∀ xs, (∀ x ∈ xs, Val x ∧ formed n x = true) → xs.length ≤ 3 → f.F [.tup xs] = .ok (.new (.lst (xs.map fun x => D.int (nd n x)))) []
theorem needs_in_ok {g : Fs} (n : Nat) (W : NeedOk n g.f_need_in) : NeedsOk n (step g).f_needs_in := by
  refine ⟨rfl, fun xs hx h3 => ?_⟩
  have lp := lc_one_map (Γ := [.dat (.tup xs), .no]) (g := gSeq) (as := .cons (.var 0) .nil) (j := 1) (e := .call g.f_need_in (.cons (.var 1) .nil))
    (ls := [.dat (.tup xs)]) (f := fun x => D.int (nd n x)) rfl rfl rfl rfl (Nat.le_trans h3 (by decide)) rfl (fun x hm => by
      have c := fun Γ => call1 (Γ := Γ) W.1 (W.2 x (hx x hm).1 (hx x hm).2)
      simp [ev_var, ev_con, ev_prim, ev_mk, ev_call, ev_and, ev_or, ev_not, ev_ifx, ev_chn, evA_nil, evA_cons, bind_ok, Ou.vl, c])
  generalize (xs.map fun x => D.int (nd n x)) = fl at lp ⊢
  simp [step, runF, tm_needs_in, ex_set, ex_ret, ex_ite, ex_drop, ex_sub, ex_par, ex_unp, exs_nil, exs_cons, ev_var, ev_con, ev_prim, ev_mk, ev_call, ev_and, ev_or, ev_not, ev_ifx, ev_chn, evA_nil, evA_cons, bind_ok, initG, lp, retV, ioOut]
theorem enum_ints (ns : List Int) (f : Int → Int → Int) : ((ns.map D.int).mapIdx fun i d => D.tup [.int (i : Nat), d]).map (fun d => match d with | .tup [.int i, .int x] => .int (f i x) | _ => .non) = (ns.mapIdx fun i x => f (i : Nat) x).map D.int := by
  refine List.ext_getElem? fun i => ?_
  simp only [List.getElem?_map, List.getElem?_mapIdx]
  cases ns[i]? <;> rfl
theorem need_in_ok {g : Fs} (n : Nat) (W : NeedsOk n g.f_needs_in) : NeedOk (n + 1) (step g).f_need_in := by
  refine ⟨rfl, fun v hv hf => ?_⟩
  have is := isi_str v hv.noObj
  rcases formed_shape hf with ⟨x, rfl⟩ | ⟨xs, rfl⟩
  · simp [step, runF, tm_need_in, ex_set, ex_ret, ex_ite, ex_drop, ex_sub, ex_par, ex_unp, exs_nil, exs_cons, ev_var, ev_con, ev_prim, ev_mk, ev_call, ev_and, ev_or, ev_not, ev_ifx, ev_chn, evA_nil, evA_cons, bind_ok, initG, resA, res, is, isStrD, Ou.vl, tru, retV, ioOut, nd]
  · have hxs : ∀ x ∈ xs, Val x := by cases hv; assumption
    obtain ⟨f1, f2, f3⟩ := formed_tup hf
    have c := fun Γ => call1 (Γ := Γ) W.1 (W.2 xs (fun x hx => ⟨hxs x hx, f3 x hx⟩) f2)
    have sr : pSrtR [.lst (xs.map fun x => D.int (nd n x))] = some (.new (.lst ((isort (xs.map (nd n))).reverse.map D.int))) := by
      unfold pSrtR
      dsimp only
      rw [ints_map]
    generalize (xs.map fun x => D.int (nd n x)) = fl at c sr
    have ln : (isort (xs.map (nd n))).reverse.length ≤ 3 := by rw [List.length_reverse, (isort_perm _).length_eq, List.length_map]; exact f2
    have nn : (isort (xs.map (nd n))).reverse ≠ [] := by simpa using isort_ne (l := xs.map (nd n)) (by simpa using f1)
    have e : nd (n + 1) (.tup xs) = mx (enumAdd (isort (xs.map (nd n))).reverse) := rfl
    generalize (isort (xs.map (nd n))).reverse = ns at sr ln nn e
    have lp := ev_lc (Γ := [.dat (.tup xs), .mt true (.lst (ns.map D.int)), .no, .no]) (g := gEnum) (as := .cons (.var 1) .nil) (tg := .cons (.nm 2) (.cons (.nm 3) .nil)) (own := [2, 3]) (c := .con (.bl true)) (e := .prim (pBin .Add) (.cons (.var 3) (.cons (.var 2) .nil)))
      (ls := [.ref 1]) (Γ1 := [.dat (.tup xs), .mt true (.lst (ns.map D.int)), .no, .no]) (Γ2 := [.dat (.tup xs), .lck true (.lst (ns.map D.int)), .no, .no]) (ds := [.lst (ns.map D.int)]) (xs := (ns.map D.int).mapIdx fun i d => D.tup [.int (i : Nat), d]) (acc := (enumAdd ns).map D.int) rfl rfl rfl (by simp; exact Nat.le_trans ln (by decide)) rfl (by
        rw [enumAdd, ← enum_ints ns fun i x => x + i]
        refine lc_map (Γ := [.dat (.tup xs), .lck true (.lst (ns.map D.int)), .no, .no]) fun d hd => ?_
        rw [List.mem_mapIdx] at hd
        obtain ⟨i, hi, rfl⟩ := hd
        have hi' : i < ns.length := by simpa using hi
        simp only [List.getElem_map]
        refine ⟨[.dat (.tup xs), .lck true (.lst (ns.map D.int)), .dat (.int (i : Nat)), .dat (.int ns[i])], rfl, rfl, ?_, rfl⟩
        simp [ev_var, ev_con, ev_prim, ev_mk, ev_call, ev_and, ev_or, ev_not, ev_ifx, ev_chn, evA_nil, evA_cons, bind_ok, resA, res, pb_add, Ou.vl])
    have mxe := pMax_ints (l := enumAdd ns) (fun z => nn (by simpa [enumAdd] using z))
    rw [← e] at mxe
    generalize (enumAdd ns).map D.int = fl2 at lp mxe
    simp only [keepG, unlockA, locks, unlock1, List.getElem?_cons_succ, List.getElem?_cons_zero, List.set_cons_succ, List.set_cons_zero, Option.getD_some] at lp
    generalize hL : D.lst (ns.map D.int) = L at lp sr
    simp [step, runF, tm_need_in, ex_set, ex_ret, ex_ite, ex_drop, ex_sub, ex_par, ex_unp, exs_nil, exs_cons, ev_var, ev_con, ev_prim, ev_mk, ev_call, ev_and, ev_or, ev_not, ev_ifx, ev_chn, evA_nil, evA_cons, bind_ok, initG, resA, res, is, isStrD, Ou.vl, tru, retV, ioOut, c, sr, store, lp, mxe]
theorem enum_neg (ns : List Int) : ((ns.map fun x => 0 - x).mapIdx fun i y => ((i : Nat) : Int) - y) = enumAdd ns := by
  refine List.ext_getElem? fun i => ?_
  simp only [enumAdd, List.getElem?_mapIdx, List.getElem?_map]
  cases ns[i]? with
  | none => rfl
  | some x => simp; omega
theorem law_need_ok {g : Fs} (n : Nat) (W : NeedOk n g.f__law_need) : NeedOk (n + 1) (step g).f__law_need := by
  refine ⟨rfl, fun v hv hf => ?_⟩
  have is := isi_str v hv.noObj
  rcases formed_shape hf with ⟨x, rfl⟩ | ⟨xs, rfl⟩
  · simp [step, runF, tm__law_need, ex_set, ex_ret, ex_ite, ex_drop, ex_sub, ex_par, ex_unp, exs_nil, exs_cons, ev_var, ev_con, ev_prim, ev_mk, ev_call, ev_and, ev_or, ev_not, ev_ifx, ev_chn, evA_nil, evA_cons, bind_ok, initG, resA, res, is, isStrD, Ou.vl, tru, retV, ioOut, nd]
  · have hxs : ∀ x ∈ xs, Val x := by cases hv; assumption
    obtain ⟨f1, f2, f3⟩ := formed_tup hf
    have lp0 := lc_one_map (Γ := [.dat (.tup xs), .no, .no, .no, .no]) (g := gSeq) (as := .cons (.var 0) .nil) (j := 2) (e := .prim (pBin .Sub) (.cons (.con (.int 0)) (.cons (.call g.f__law_need (.cons (.var 2) .nil)) .nil)))
      (ls := [.dat (.tup xs)]) (f := fun x => D.int (0 - nd n x)) rfl rfl rfl rfl (Nat.le_trans f2 (by decide)) rfl (fun x hm => by
        have c := fun Γ => call1 (Γ := Γ) W.1 (W.2 x (hxs x hm) (f3 x hm))
        simp [ev_var, ev_con, ev_prim, ev_mk, ev_call, ev_and, ev_or, ev_not, ev_ifx, ev_chn, evA_nil, evA_cons, bind_ok, Ou.vl, c, resA, res, pb_sub])
    have sr : pSrt [.lst (xs.map fun x => D.int (0 - nd n x))] = some (.new (.lst ((isort ((xs.map (nd n)).map fun x => 0 - x)).map D.int))) := by
      unfold pSrt
      dsimp only
      rw [ints_map, List.map_map]
      rfl
    rw [isort_neg] at sr
    generalize (xs.map fun x => D.int (0 - nd n x)) = fl at lp0 sr
    have ln : (isort (xs.map (nd n))).reverse.length ≤ 3 := by rw [List.length_reverse, (isort_perm _).length_eq, List.length_map]; exact f2
    have nn : (isort (xs.map (nd n))).reverse ≠ [] := by simpa using isort_ne (l := xs.map (nd n)) (by simpa using f1)
    have e : nd (n + 1) (.tup xs) = mx (enumAdd (isort (xs.map (nd n))).reverse) := rfl
    generalize (isort (xs.map (nd n))).reverse = ms at sr ln nn e
    have en := enum_neg ms
    have ln2 : (ms.map fun x => 0 - x).length ≤ 3 := by simpa using ln
    generalize (ms.map fun x => 0 - x) = ns at sr en ln2
    have lp := ev_lc (Γ := [.dat (.tup xs), .mt true (.lst (ns.map D.int)), .no, .no, .no]) (g := gEnum) (as := .cons (.var 1) .nil) (tg := .cons (.nm 3) (.cons (.nm 4) .nil)) (own := [3, 4]) (c := .con (.bl true)) (e := .prim (pBin .Sub) (.cons (.var 3) (.cons (.var 4) .nil)))
      (ls := [.ref 1]) (Γ1 := [.dat (.tup xs), .mt true (.lst (ns.map D.int)), .no, .no, .no]) (Γ2 := [.dat (.tup xs), .lck true (.lst (ns.map D.int)), .no, .no, .no]) (ds := [.lst (ns.map D.int)]) (xs := (ns.map D.int).mapIdx fun i d => D.tup [.int (i : Nat), d]) (acc := (enumAdd ms).map D.int) rfl rfl rfl (by simp; exact Nat.le_trans ln2 (by decide)) rfl (by
        rw [← en, ← enum_ints ns fun i x => i - x]
        refine lc_map (Γ := [.dat (.tup xs), .lck true (.lst (ns.map D.int)), .no, .no, .no]) fun d hd => ?_
        rw [List.mem_mapIdx] at hd
        obtain ⟨i, hi, rfl⟩ := hd
        have hi' : i < ns.length := by simpa using hi
        simp only [List.getElem_map]
        refine ⟨[.dat (.tup xs), .lck true (.lst (ns.map D.int)), .no, .dat (.int (i : Nat)), .dat (.int ns[i])], rfl, rfl, ?_, rfl⟩
        simp [ev_var, ev_con, ev_prim, ev_mk, ev_call, ev_and, ev_or, ev_not, ev_ifx, ev_chn, evA_nil, evA_cons, bind_ok, resA, res, pb_sub, Ou.vl])
    have mxe := pMax_ints (l := enumAdd ms) (fun z => nn (by simpa [enumAdd] using z))
    rw [← e] at mxe
    generalize (enumAdd ms).map D.int = fl2 at lp mxe
    simp only [keepG, unlockA, locks, unlock1, List.getElem?_cons_succ, List.getElem?_cons_zero, List.set_cons_succ, List.set_cons_zero, Option.getD_some] at lp
    generalize hL : D.lst (ns.map D.int) = L at lp sr
    simp [step, runF, tm__law_need, ex_set, ex_ret, ex_ite, ex_drop, ex_sub, ex_par, ex_unp, exs_nil, exs_cons, ev_var, ev_con, ev_prim, ev_mk, ev_call, ev_and, ev_or, ev_not, ev_ifx, ev_chn, evA_nil, evA_cons, bind_ok, initG, resA, res, is, isStrD, Ou.vl, tru, retV, ioOut, lp0, sr, store, lp, mxe]
theorem need_of_ok {g : Fs} (E : DueOk g.f_is_expression) (N : NeedOk 8 g.f_need_in) : (step g).f_need_of.io = [false] ∧ ∀ v, Val v → due v = true → (step g).f_need_of.F [v] = .ok (.dat (.int (nd 8 v))) [] := by
  refine ⟨rfl, fun v hv hd => ?_⟩
  have hf : formed 8 v = true := by simp only [due, Bool.and_eq_true] at hd; exact hd.1
  have c1 := fun Γ => call1 (Γ := Γ) E.1 (E.2 v hv)
  have c2 := fun Γ => call1 (Γ := Γ) N.1 (N.2 v hv hf)
  simp [step, runF, tm_need_of, ex_set, ex_ret, ex_ite, ex_drop, ex_sub, ex_par, ex_unp, exs_nil, exs_cons, ev_var, ev_con, ev_prim, ev_mk, ev_call, ev_and, ev_or, ev_not, ev_ifx, ev_chn, evA_nil, evA_cons, bind_ok, initG, resA, res, Ou.vl, c1, c2, hd, tru, retV, ioOut]
theorem maxI_le {b : Int} : ∀ (r : List Int) (m : Int), m ≤ b → (∀ y ∈ r, y ≤ b) → maxI m r ≤ b := fun r m h1 h2 => by
  rcases (maxI_ok r m).1 with z | z
  · rw [z]; exact h1
  · exact h2 _ z
theorem nd_bd : ∀ (n : Nat) (v : D), formed n v = true → 0 ≤ nd n v ∧ nd n v ≤ 2 * n + 1
  | 0, _, h => by cases h
  | n + 1, v, hf => by
    rcases formed_shape hf with ⟨x, rfl⟩ | ⟨xs, rfl⟩
    · simp [nd]; omega
    · obtain ⟨f1, f2, f3⟩ := formed_tup hf
      have nn : (isort (xs.map (nd n))).reverse ≠ [] := by simpa using isort_ne (l := xs.map (nd n)) (by simpa using f1)
      have ln : (isort (xs.map (nd n))).reverse.length ≤ 3 := by rw [List.length_reverse, (isort_perm _).length_eq, List.length_map]; exact f2
      have bd : ∀ y ∈ (isort (xs.map (nd n))).reverse, 0 ≤ y ∧ y ≤ 2 * n + 1 := fun y hy => by
        have := (isort_perm _).mem_iff.mp (List.mem_reverse.mp hy)
        obtain ⟨x, hx, rfl⟩ := List.mem_map.mp this
        exact nd_bd n x (f3 x hx)
      show 0 ≤ mx (enumAdd (isort (xs.map (nd n))).reverse) ∧ mx (enumAdd (isort (xs.map (nd n))).reverse) ≤ 2 * ((n + 1 : Nat) : Int) + 1
      generalize (isort (xs.map (nd n))).reverse = ns at nn ln bd
      have be : ∀ y ∈ enumAdd ns, 0 ≤ y ∧ y ≤ 2 * ((n + 1 : Nat) : Int) + 1 := fun y hy => by
        simp only [enumAdd, List.mem_mapIdx] at hy
        obtain ⟨i, hi, rfl⟩ := hy
        have := bd ns[i] (List.getElem_mem hi)
        omega
      have ne : enumAdd ns ≠ [] := fun z => nn (by simpa [enumAdd] using z)
      generalize enumAdd ns = l at be ne
      cases l with
      | nil => exact absurd rfl ne
      | cons m r =>
        have h0 := be m List.mem_cons_self
        have := (maxI_ok r m).2.1
        exact ⟨by show 0 ≤ maxI m r; omega, maxI_le r m h0.2 fun y hy => (be y (List.mem_cons_of_mem _ hy)).2⟩
end Lw

end
-- P4
section
namespace Lw
open PySem L2 MP
theorem callIo {f : Fn} {d bg bg' r : D} {b : Bool} {i : Nat} {Γ : List Slot} (io : f.io = [true, false]) (hi : Γ[i]? = some (.mt b bg)) (h : f.F [bg, d] = .ok (.dat r) [bg']) : evCall f [.ref i, .dat d] Γ = .ok (.dat r) (Γ.set i (.mt b bg')) := by
  simp [evCall, resA, res, ioIx, io, hi, h, lent, putA, put1, isMt, Ou.vl]
theorem callIoN {f : Fn} {d bg bg' r : D} {b : Bool} {i : Nat} {Γ : List Slot} (io : f.io = [true, false]) (hi : Γ[i]? = some (.mt b bg)) (h : f.F [bg, d] = .ok (.dat r) [bg']) : evCall f [.ref i, .new d] Γ = .ok (.dat r) (Γ.set i (.mt b bg')) := by
  simp [evCall, resA, res, ioIx, io, hi, h, lent, putA, put1, isMt, Ou.vl]
def ExpN : Nat → D → Prop
  | 0, _ => False
  | n + 1, v => (∃ x, x.length ≤ 8 ∧ v = .str x) ∨ ∃ xs, v = .tup xs ∧ xs ≠ [] ∧ xs.length ≤ 3 ∧ ∀ x ∈ xs, ExpN n x
theorem ExpN.val : ∀ {n : Nat} {v : D}, ExpN n v → Val v
  | 0, _, h => h.elim
  | n + 1, _, .inl ⟨x, h, e⟩ => by subst e; exact .str x (by omega)
  | n + 1, _, .inr ⟨xs, e, _, _, h⟩ => by subst e; exact .tup xs fun x hx => (h x hx).val
def ExprOk (n : Nat) (f : Fn) : Prop := f.io = [true, false] ∧ ∀ bg, Bag bg → ∃ v bg', Bag bg' ∧ ExpN n v ∧ f.F [bg, .int n] = .ok (.dat v) [bg']
theorem expr_ok {g : Fs} (T : ThrowOk g.f__law_throw) (K : PickOk g.f__law_pick) (n : Nat) (W : n = 0 ∨ ExprOk n g.f__law_expression) : ExprOk (n + 1) (step g).f__law_expression := by
  refine ⟨rfl, fun bg hb => ?_⟩
  have hm : (((n + 1 : Nat) : Int) == 1) = decide (n = 0) := by
    by_cases h : n = 0
    · subst h; rfl
    · simp [h]; omega
  have hs : ((n + 1 : Nat) : Int) - 1 = n := by omega
  generalize ((n + 1 : Nat) : Int) = m at hm hs
  have pk : ∀ bg, Bag bg → ∃ v bg', Bag bg' ∧ ExpN (n + 1) v ∧ g.f__law_pick.F [bg, .lst [.str "x", .str "y", .str "a", .str "zzzzzzzz"]] = .ok (.dat v) [bg'] := fun bg hb => by
    obtain ⟨d, bg', h1, h2, h3⟩ := K.2 bg [.str "x", .str "y", .str "a", .str "zzzzzzzz"] hb (by simp) (by decide)
    refine ⟨d, bg', h1, .inl ?_, h3⟩
    simp only [List.mem_cons, List.not_mem_nil, or_false] at h2
    rcases h2 with e | e | e | e <;> exact ⟨_, by decide, e⟩
  have dl : dLst [.str "x", .str "y", .str "a", .str "zzzzzzzz"] = some (.new (.lst [.str "x", .str "y", .str "a", .str "zzzzzzzz"])) := rfl
  generalize D.lst [.str "x", .str "y", .str "a", .str "zzzzzzzz"] = its at pk dl
  by_cases hn : n = 0
  · have hm' : (m == 1) = true := by rw [hm]; simp [hn]
    obtain ⟨v, bg', h1, h2, h3⟩ := pk bg hb
    refine ⟨v, bg', h1, h2, ?_⟩
    have c := callIoN (Γ := [.mt false bg, .dat (.int m), .no]) (i := 0) (b := false) K.1 rfl h3
    simp [step, runF, tm__law_expression, ex_set, ex_ret, ex_ite, ex_drop, ex_sub, ex_par, ex_unp, exs_nil, exs_cons, ev_var, ev_con, ev_prim, ev_mk, ev_call, ev_and, ev_or, ev_not, ev_ifx, ev_chn, evA_nil, evA_cons, bind_ok, initG, resA, res, Ou.vl, eqInt, hm', escA, esc, dl, c, retV, ioOut]
  · have hm' : (m == 1) = false := by rw [hm]; simp [hn]
    have W := W.resolve_left hn
    obtain ⟨r, bg1, hb1, r0, r1, e1⟩ := T.2 bg 4 hb (by decide) (by decide)
    have c1 := callIo (Γ := [.mt false bg, .dat (.int m), .no]) (i := 0) (b := false) T.1 rfl e1
    cases hr : (r == 0) with
    | true =>
      obtain ⟨v, bg', h1, h2, h3⟩ := pk bg1 hb1
      refine ⟨v, bg', h1, h2, ?_⟩
      have c := callIoN (Γ := [.mt false bg1, .dat (.int m), .no]) (i := 0) (b := false) K.1 rfl h3
      simp [step, runF, tm__law_expression, ex_set, ex_ret, ex_ite, ex_drop, ex_sub, ex_par, ex_unp, exs_nil, exs_cons, ev_var, ev_con, ev_prim, ev_mk, ev_call, ev_and, ev_or, ev_not, ev_ifx, ev_chn, evA_nil, evA_cons, bind_ok, initG, resA, res, Ou.vl, eqInt, hm', escA, esc, dl, c1, c, hr, retV, ioOut]
    | false =>
      obtain ⟨r2, bg2, hb2, s0, s1, e2⟩ := T.2 bg1 3 hb1 (by decide) (by decide)
      have c2 := callIo (Γ := [.mt false bg1, .dat (.int m), .no]) (i := 0) (b := false) T.1 rfl e2
      have ea : evA (.cons (.prim (pBin .Add) (.cons (.con (.int 1)) (.cons (.call g.f__law_throw (.cons (.var 0) (.cons (.con (.int 3)) .nil))) .nil))) .nil) [.mt false bg1, .dat (.int m), .no] = .ok [.dat (.int (1 + r2))] [.mt false bg2, .dat (.int m), .no] := by
        simp [ev_var, ev_con, ev_prim, ev_mk, ev_call, ev_and, ev_or, ev_not, ev_ifx, ev_chn, evA_nil, evA_cons, bind_ok, c2, resA, res, pb_add, Ou.vl]
      have g1 : gRng1 [.int (1 + r2)] = some (rngD 0 (1 + r2)) := if_pos ⟨by simp only [R62]; omega, by simp only [R62]; omega⟩
      have gl : (rngD 0 (1 + r2)).length = (1 + r2).toNat := by simp [rngD]
      obtain ⟨ds, Γ', l1, ⟨bg3, hb3, rfl⟩, l3, l4⟩ := lc_inv (ec := ev (.con (.bl true))) (ee := ev (.call g.f__law_expression (.cons (.var 0) (.cons (.prim (pBin .Sub) (.cons (.var 1) (.cons (.con (.int 1)) .nil))) .nil)))) (tg := .nm 2) (own := [2])
        (fun Γ => ∃ bg, Bag bg ∧ Γ = [.mt false bg, .dat (.int m), .no]) (ExpN n) (xs := rngD 0 (1 + r2)) (acc := []) (Γ := [.mt false bg2, .dat (.int m), .no]) (fun x hx Γ hI => by
          obtain ⟨bg, hb, rfl⟩ := hI
          obtain ⟨v, bg', h1, h2, h3⟩ := W.2 bg hb
          have c := callIo (Γ := [.mt false bg, .dat (.int m), .dat x]) (i := 0) (b := false) W.1 rfl h3
          refine ⟨[.mt false bg, .dat (.int m), .dat x], .dat v, [.mt false bg', .dat (.int m), .dat x], v, [.mt false bg', .dat (.int m), .dat x], rfl, rfl, ?_, rfl, h2, bg', h1, rfl⟩
          simp [ev_var, ev_con, ev_prim, ev_mk, ev_call, ev_and, ev_or, ev_not, ev_ifx, ev_chn, evA_nil, evA_cons, bind_ok, resA, res, pb_sub, hs, Ou.vl, c]) ⟨bg2, hb2, rfl⟩ nofun
      have lp := ev_lc (Γ := [.mt false bg1, .dat (.int m), .no]) (tg := .nm 2) (own := [2]) (c := .con (.bl true)) (e := .call g.f__law_expression (.cons (.var 0) (.cons (.prim (pBin .Sub) (.cons (.var 1) (.cons (.con (.int 1)) .nil))) .nil))) ea rfl g1 (by rw [gl]; exact Nat.le_trans (show (1 + r2).toNat ≤ 3 by omega) (by decide)) rfl l1
      rw [show keepG [2] [Slot.mt false bg2, Slot.dat (D.int m), Slot.no] (unlockA (locks [Slot.mt false bg2, Slot.dat (D.int m), Slot.no] [Vl.dat (D.int (1 + r2))]) [Slot.mt false bg3, Slot.dat (D.int m), Slot.no]) = [.mt false bg3, .dat (.int m), .no] from rfl] at lp
      refine ⟨.tup ds, bg3, hb3, .inr ⟨ds, rfl, ?_, ?_, l3⟩, ?_⟩
      · intro z
        rw [z, gl] at l4
        simp at l4
        omega
      · rw [l4, gl]
        simp
        omega
      · simp [step, runF, tm__law_expression, ex_set, ex_ret, ex_ite, ex_drop, ex_sub, ex_par, ex_unp, exs_nil, exs_cons, ev_var, ev_con, ev_prim, ev_mk, ev_call, ev_and, ev_or, ev_not, ev_ifx, ev_chn, evA_nil, evA_cons, bind_ok, initG, resA, res, Ou.vl, eqInt, hm', c1, hr, lp, pTup, retV, ioOut]
end Lw

end
-- P5
section
namespace Lw
open PySem L2 MP
def odds : List D := [.non, .bl true, .int 0, .str "", .str "A", .str "x y", .str "abcdefghi", .lst [], .dct [] [], .tup [], .lst [.str "x"], .tup [.str "x", .str "x", .str "x", .str "x"], .tup [.str "x", .int 1], .str "x1"]
theorem odds_val : ∀ d ∈ odds, Val d := by
  have sx : Val (.str "x") := .str _ (by decide)
  intro d hd
  simp only [odds, List.mem_cons, List.not_mem_nil, or_false] at hd
  rcases hd with e | e | e | e | e | e | e | e | e | e | e | e | e | e <;> subst e
  · exact .non
  · exact .bl _
  · exact .int _
  · exact .str _ (by decide)
  · exact .str _ (by decide)
  · exact .str _ (by decide)
  · exact .str _ (by decide)
  · exact .lst _ nofun
  · exact .dct _ _
  · exact .tup _ nofun
  · exact .lst _ (by simp; exact sx)
  · exact .tup _ (by simp; exact sx)
  · exact .tup _ (by simp; exact ⟨sx, .int _⟩)
  · exact .str _ (by decide)
theorem odds_ev (Γ : List Slot) : ev (.mk dLst (.cons (.con .non) (.cons (.con (.bl true)) (.cons (.con (.int 0)) (.cons (.con (.str "")) (.cons (.con (.str "A")) (.cons (.con (.str "x y")) (.cons (.con (.str "abcdefghi")) (.cons (.mk dLst .nil) (.cons (.mk dDct .nil) (.cons (.mk dTup .nil) (.cons (.mk dLst (.cons (.con (.str "x")) .nil)) (.cons (.prim (pBin .Mult) (.cons (.mk dTup (.cons (.con (.str "x")) .nil)) (.cons (.con (.int 4)) .nil))) (.cons (.mk dTup (.cons (.con (.str "x")) (.cons (.con (.int 1)) .nil))) (.cons (.con (.str "x1")) .nil))))))))))))))) Γ = .ok (.new (.lst odds)) Γ := by
  kernel_rfl
def NearOk (n : Nat) (f : Fn) : Prop := f.io = [true, false] ∧ ∀ bg v, Bag bg → ExpN n v → ∃ d bg', Bag bg' ∧ Val d ∧ f.F [bg, v] = .ok (.dat d) [bg']
theorem cut_mem {xs : List D} {lo hi : Option Int} : ∀ x ∈ cutD xs lo hi, x ∈ xs := fun x h => List.mem_of_mem_drop (List.mem_of_mem_take h)
theorem cut_len {xs : List D} {lo hi : Option Int} : (cutD xs lo hi).length ≤ xs.length := by
  unfold cutD
  rw [List.length_take, List.length_drop]
  omega
theorem near_ok {g : Fs} (T : ThrowOk g.f__law_throw) (K : PickOk g.f__law_pick) (n : Nat) (W : NearOk n g.f__law_near) : NearOk (n + 1) (step g).f__law_near := by
  refine ⟨rfl, fun bg v hb hv => ?_⟩
  have vv := hv.val
  have it := isi_tup v vv.noObj
  obtain ⟨od, bg1, hb1, o1, p1⟩ := K.2 bg odds hb (by simp [odds]) (by decide)
  have vo := odds_val od o1
  have c1 := callIoN (Γ := [.mt false bg, .dat v, .no, .no]) (i := 0) (b := false) K.1 rfl p1
  have pl : ∀ bg, Bag bg → ∃ d bg', Bag bg' ∧ Val d ∧ g.f__law_pick.F [bg, .lst [od, .tup [v], .tup [v, v], .tup [v, od], .lst [v], .tup [v, v, v]]] = .ok (.dat d) [bg'] := fun bg hb => by
    obtain ⟨d, bg', h1, h2, h3⟩ := K.2 bg [od, .tup [v], .tup [v, v], .tup [v, od], .lst [v], .tup [v, v, v]] hb (by simp) (by simp)
    refine ⟨d, bg', h1, ?_, h3⟩
    simp only [List.mem_cons, List.not_mem_nil, or_false] at h2
    rcases h2 with e | e | e | e | e | e <;> subst e
    · exact vo
    · exact .tup _ (by simp; exact vv)
    · exact .tup _ (by simp; exact vv)
    · exact .tup _ (by simp; exact ⟨vv, vo⟩)
    · exact .lst _ (by simp; exact vv)
    · exact .tup _ (by simp; exact vv)
  have t1 : dTup [v] = some (.dat (.tup [v])) := rfl
  have t2 : dTup [v, v] = some (.dat (.tup [v, v])) := rfl
  have t3 : dTup [v, od] = some (.dat (.tup [v, od])) := rfl
  have t4 : dLst [v] = some (.new (.lst [v])) := rfl
  have t5 : dTup [v, v, v] = some (.dat (.tup [v, v, v])) := rfl
  have t6 : dLst [od, .tup [v], .tup [v, v], .tup [v, od], .lst [v], .tup [v, v, v]] = some (.new (.lst [od, .tup [v], .tup [v, v], .tup [v, od], .lst [v], .tup [v, v, v]])) := rfl
  generalize hl6 : D.lst [od, .tup [v], .tup [v, v], .tup [v, od], .lst [v], .tup [v, v, v]] = l6 at pl t6
  rcases hv with ⟨x, hx, rfl⟩ | ⟨xs, rfl, x1, x3, xe⟩
  · obtain ⟨d, bg', h1, h2, h3⟩ := pl bg1 hb1
    refine ⟨d, bg', h1, h2, ?_⟩
    have c := callIoN (Γ := [.mt false bg1, .dat (.str x), .dat od, .no]) (i := 0) (b := false) K.1 rfl h3
    simp [step, runF, tm__law_near, ex_set, ex_ret, ex_ite, ex_drop, ex_sub, ex_par, ex_unp, exs_nil, exs_cons, ev_var, ev_con, ev_prim, ev_mk, ev_call, ev_and, ev_or, ev_not, ev_ifx, ev_chn, evA_nil, evA_cons, bind_ok, initG, resA, res, Ou.vl, ↓odds_ev, c1, store, esc, escA, it, isTupD, tru, t1, t2, t3, t4, t5, t6, c, retV, ioOut]
  · obtain ⟨r, bg2, hb2, r0, r1, e2⟩ := T.2 bg1 3 hb1 (by decide) (by decide)
    have c2 := callIo (Γ := [.mt false bg1, .dat (.tup xs), .dat od, .no]) (i := 0) (b := false) T.1 rfl e2
    cases hr : decide (0 < r) with
    | false =>
      obtain ⟨d, bg', h1, h2, h3⟩ := pl bg2 hb2
      refine ⟨d, bg', h1, h2, ?_⟩
      have c := callIoN (Γ := [.mt false bg2, .dat (.tup xs), .dat od, .no]) (i := 0) (b := false) K.1 rfl h3
      simp [step, runF, tm__law_near, ex_set, ex_ret, ex_ite, ex_drop, ex_sub, ex_par, ex_unp, exs_nil, exs_cons, ev_var, ev_con, ev_prim, ev_mk, ev_call, ev_and, ev_or, ev_not, ev_ifx, ev_chn, evA_nil, evA_cons, bind_ok, initG, resA, res, Ou.vl, ↓odds_ev, c1, c2, store, esc, escA, it, isTupD, tru, gt_i, hr, t1, t2, t3, t4, t5, t6, c, retV, ioOut]
    | true =>
      have hl0 : 0 < xs.length := by cases xs with | nil => exact absurd rfl x1 | cons _ _ => simp
      obtain ⟨a, bg3, hb3, a0, a1, e3⟩ := T.2 bg2 (xs.length : Int) hb2 (by omega) (log_small (by simp; omega))
      have c3 := callIo (Γ := [.mt false bg2, .dat (.tup xs), .dat od, .no]) (i := 0) (b := false) T.1 rfl e3
      have ha : a.toNat < xs.length := by omega
      have ix : atI xs a = some xs[a.toNat] := by
        simp only [atI, ixN]
        rw [if_pos a0, if_pos (by omega)]
        simp [ha]
      obtain ⟨d, bg4, hb4, vd, e4⟩ := W.2 bg3 xs[a.toNat] hb3 (xe _ (List.getElem_mem ha))
      have c4 := callIo (Γ := [.mt false bg3, .dat (.tup xs), .dat od, .dat (.int a)]) (i := 0) (b := false) W.1 rfl e4
      have s1 : pSl false true [.tup xs, .int a] = some (.dat (.tup (cutD xs none (some a)))) := rfl
      have s2 : pSl true false [.tup xs, .int (a + 1)] = some (.dat (.tup (cutD xs (some (a + 1)) none))) := rfl
      have td : dTup [d] = some (.dat (.tup [d])) := rfl
      have lm1 := cut_mem (xs := xs) (lo := none) (hi := some a)
      have lm2 := cut_mem (xs := xs) (lo := some (a + 1)) (hi := none)
      have ll1 := cut_len (xs := xs) (lo := none) (hi := some a)
      have ll2 := cut_len (xs := xs) (lo := some (a + 1)) (hi := none)
      generalize cutD xs none (some a) = A at s1 lm1 ll1
      generalize cutD xs (some (a + 1)) none = B at s2 lm2 ll2
      have ad1 : pBin .Add [.tup A, .tup [d]] = some (.dat (.tup (A ++ [d]))) := if_pos (Nat.le_trans (show A.length + [d].length ≤ 4 by simp; omega) (by decide))
      have ad2 : pBin .Add [.tup (A ++ [d]), .tup B] = some (.dat (.tup (A ++ [d] ++ B))) := if_pos (Nat.le_trans (show (A ++ [d]).length + B.length ≤ 7 by simp; omega) (by decide))
      refine ⟨.tup (A ++ [d] ++ B), bg4, hb4, .tup _ (fun y hy => ?_), ?_⟩
      · simp only [List.mem_append, List.mem_singleton] at hy
        rcases hy with (hy | hy) | hy
        · exact (xe y (lm1 y hy)).val
        · rw [hy]; exact vd
        · exact (xe y (lm2 y hy)).val
      · generalize hAB : D.tup (A ++ [d] ++ B) = AB at ad2
        generalize hA1 : D.tup (A ++ [d]) = A1 at ad1 ad2
        simp [step, runF, tm__law_near, ex_set, ex_ret, ex_ite, ex_drop, ex_sub, ex_par, ex_unp, exs_nil, exs_cons, ev_var, ev_con, ev_prim, ev_mk, ev_call, ev_and, ev_or, ev_not, ev_ifx, ev_chn, evA_nil, evA_cons, bind_ok, initG, resA, res, Ou.vl, ↓odds_ev, c1, c2, c3, c4, store, esc, escA, it, isTupD, tru, gt_i, hr, pLen, pIx, ix, s1, s2, td, pb_add, ad1, ad2, retV, ioOut]
end Lw

end
-- P6
section
namespace Lw
open PySem L2 MP
/-! the levels -/
theorem T_ (k : Nat) : ThrowOk (G (k + 1)).f__law_throw := throw_ok (G k)
theorem K_ (k : Nat) : PickOk (G (k + 2)).f__law_pick := pick_ok (g := G (k + 1)) (T_ k)
theorem E_ (k : Nat) : ∀ n, ExprOk (n + 1) (G (k + n + 3)).f__law_expression
  | 0 => expr_ok (g := G (k + 2)) (T_ (k + 1)) (K_ k) 0 (.inl rfl)
  | n + 1 => expr_ok (g := G (k + n + 3)) (T_ (k + n + 2)) (K_ (k + n + 1)) (n + 1) (.inr (E_ k n))
theorem near0 (k : Nat) : NearOk 0 (G k).f__law_near := ⟨by cases k <;> rfl, fun _ _ _ h => h.elim⟩
theorem Nr_ (k : Nat) : ∀ n, NearOk n (G (k + n + 2)).f__law_near
  | 0 => near0 _
  | n + 1 => near_ok (g := G (k + n + 2)) (T_ (k + n + 1)) (K_ (k + n)) n (Nr_ k n)
theorem Nm_ (k : Nat) : NameOk (G (k + 1)).f_is_name := is_name_ok (G k)
theorem W_ (k : Nat) : ∀ n, NwOk (n + 1) (G (k + n + 2)).f_names_within
  | 0 => names_ok (g := G (k + 1)) (Nm_ k) 0 (.inl rfl)
  | n + 1 => names_ok (g := G (k + n + 2)) (Nm_ (k + n + 1)) (n + 1) (.inr (W_ k n))
theorem X_ (k : Nat) : DueOk (G (k + 10)).f_is_expression := is_expr_ok (g := G (k + 9)) (W_ k 7)
theorem Wd_ (k : Nat) : NameOk (G (k + 1)).f__law_is_word := is_word_ok (G k)
theorem F_ (k : Nat) : ∀ n, FormOk (n + 1) (G (k + n + 2)).f__law_is_formed
  | 0 => formed_ok (g := G (k + 1)) (Wd_ k) 0 (.inl rfl)
  | n + 1 => formed_ok (g := G (k + n + 2)) (Wd_ (k + n + 1)) (n + 1) (.inr (F_ k n))
theorem C_ (k : Nat) : ∀ n, CountOk n (G (k + n)).f__law_counted
  | 0 => ⟨by cases k <;> rfl, fun _ _ h => by cases h⟩
  | n + 1 => counted_ok (g := G (k + n)) n (C_ k n)
theorem D_ (k : Nat) : DueOk (G (k + 10)).f__law_is_due := due_ok (g := G (k + 9)) (F_ k 7) (C_ (k + 1) 8)
theorem Ni_ (k : Nat) : ∀ n, NeedOk n (G (k + 2 * n)).f_need_in
  | 0 => ⟨by cases k <;> rfl, fun _ _ h => by cases h⟩
  | n + 1 => need_in_ok (g := G (k + 2 * n + 1)) n (needs_in_ok (g := G (k + 2 * n)) n (Ni_ k n))
theorem Nl_ (k : Nat) : ∀ n, NeedOk n (G (k + n)).f__law_need
  | 0 => ⟨by cases k <;> rfl, fun _ _ h => by cases h⟩
  | n + 1 => law_need_ok (g := G (k + n)) n (Nl_ k n)
def hd : Ss → Sm
  | .cons s _ => s
  | .nil => .pas
def tl : Ss → Ss
  | .cons _ r => r
  | .nil => .nil
def bodyF : Sm → Ss
  | .for _ _ _ b => b
  | _ => .nil
def outB (g : Fs) : Ss := bodyF (hd (tm_law g))
def midB (g : Fs) : Ss := bodyF (hd (tl (outB g)))
def innB (g : Fs) : Ss := bodyF (hd (tl (midB g)))
theorem repr_small : ∀ k : Fin 18, PyData.strOk ((toString ((k.val : Nat) : Int) : String) : Str) = true := by decide +kernel
theorem repr_ok {i : Int} (h0 : 0 ≤ i) (h1 : i ≤ 17) : ∃ z, pRepr [.int i] = some (.dat (.str z)) ∧ PyData.strOk z = true := by
  obtain ⟨k, rfl⟩ : ∃ k : Nat, i = (k : Nat) := ⟨i.toNat, by omega⟩
  have hk : k < 18 := by omega
  refine ⟨_, if_pos ?_, repr_small ⟨k, hk⟩⟩
  have : (k : Int).natAbs = k := by simp
  rw [this]
  by_cases hz : k = 0
  · subst hz; decide
  · exact Nat.lt_of_lt_of_le ((Nat.log2_lt hz).mpr (show k < 2 ^ 5 by omega)) (by decide)
theorem repr_b (b : Bool) : ∃ z, pRepr [.bl b] = some (.dat (.str z)) ∧ PyData.strOk z = true := by
  cases b
  · exact ⟨_, rfl, by decide +kernel⟩
  · exact ⟨_, rfl, by decide +kernel⟩
theorem inn_ok (S s1 s2 s3 s4 : Slot) (x : D) (hx : Val x) : exs 1000 (innB (G 59)) [S, s1, s2, s3, s4, .dat x, .no, .no, .no, .no, .no] = .ok .nx [S, s1, s2, s3, s4, .dat x, .no, .no, .no, .no, .no] := by
  have c1 := fun Γ => call1 (Γ := Γ) (X_ 49).1 ((X_ 49).2 x hx)
  have c2 := fun Γ => call1 (Γ := Γ) (D_ 49).1 ((D_ 49).2 x hx)
  have no : (G 59).f_need_of.io = [false] ∧ ∀ v, Val v → due v = true → (G 59).f_need_of.F [v] = .ok (.dat (.int (nd 8 v))) [] := need_of_ok (g := G 58) (X_ 48) (Ni_ 42 8)
  have nl : NeedOk 8 (G 59).f__law_need := Nl_ 51 8
  obtain ⟨z, r1, r2⟩ := repr_b (due x)
  have ne := neStr r2
  simp only [innB, midB, outB, bodyF, hd, tl, tm_law]
  generalize G 59 = g at *
  cases hd : due x with
  | false =>
    rw [hd] at c1 c2 r1
    simp [ex_set, ex_ret, ex_ite, ex_drop, ex_sub, ex_par, ex_unp, exs_nil, exs_cons, ev_var, ev_con, ev_prim, ev_mk, ev_call, ev_and, ev_or, ev_not, ev_ifx, ev_chn, evA_nil, evA_cons, bind_ok, resA, res, Ou.vl, c1, c2, r1, ne, tru]
  | true =>
    have hf : formed 8 x = true := by simp only [due, Bool.and_eq_true] at hd; exact hd.1
    have bd := nd_bd 8 x hf
    have c3 := fun Γ => call1 (Γ := Γ) no.1 (no.2 x hx hd)
    have c4 := fun Γ => call1 (Γ := Γ) nl.1 (nl.2 x hx hf)
    obtain ⟨y, q1, q2⟩ := repr_ok bd.1 (by have := bd.2; omega)
    have ne2 := neStr q2
    rw [hd] at c1 c2 r1
    simp [ex_set, ex_ret, ex_ite, ex_drop, ex_sub, ex_par, ex_unp, exs_nil, exs_cons, ev_var, ev_con, ev_prim, ev_mk, ev_call, ev_and, ev_or, ev_not, ev_ifx, ev_chn, evA_nil, evA_cons, bind_ok, resA, res, Ou.vl, c1, c2, c3, c4, r1, ne, q1, ne2, tru]
def Mid (S s1 : Slot) (Γ : List Slot) : Prop := ∃ bg s3 s4 s5, Bag bg ∧ (s4 = .no ∨ ∃ d, s4 = .dat d) ∧ Γ = [S, s1, .mt true bg, s3, s4, s5, .no, .no, .no, .no, .no]
theorem mid_ok (S s1 : Slot) (x : D) (Γ : List Slot) (h : Mid S s1 Γ) : ∃ Γ1 Γ2, bnd (.nm 3) x Γ = some Γ1 ∧ exs 1000 (midB (G 59)) Γ1 = .ok .nx Γ2 ∧ Mid S s1 Γ2 := by
  obtain ⟨bg, s3, s4, s5, hb, _, rfl⟩ := h
  have T := T_ 58
  obtain ⟨r, bg1, hb1, r0, r1, e1⟩ := T.2 bg 4 hb (by decide) (by decide)
  have c1 := callIo (Γ := [S, s1, .mt true bg, .dat x, s4, s5, .no, .no, .no, .no, .no]) (i := 2) (b := true) T.1 rfl e1
  obtain ⟨m, hm⟩ : ∃ m : Nat, r = (m : Nat) := ⟨r.toNat, by omega⟩
  subst hm
  have hm4 : m < 4 := by omega
  have E : ExprOk (m + 1 + 1) (G 59).f__law_expression := by
    have := E_ (59 - (m + 1) - 3) (m + 1)
    rwa [show 59 - (m + 1) - 3 + (m + 1) + 3 = 59 by omega] at this
  have Nr : NearOk (m + 1 + 1) (G 59).f__law_near := by
    have := Nr_ (59 - (m + 2) - 2) (m + 2)
    rwa [show 59 - (m + 2) - 2 + (m + 2) + 2 = 59 by omega] at this
  obtain ⟨v, bg2, hb2, hv, e2⟩ := E.2 bg1 hb1
  have em : ((m + 1 + 1 : Nat) : Int) = 2 + (m : Int) := by omega
  rw [em] at e2
  have c2 := callIo (Γ := [S, s1, .mt true bg1, .dat x, s4, s5, .no, .no, .no, .no, .no]) (i := 2) (b := true) E.1 rfl e2
  have vv := hv.val
  obtain ⟨ds, Γ', l1, ⟨bg3, hb3, rfl⟩, l3, l4⟩ := lc_inv (ec := ev (.con (.bl true))) (ee := ev (.call (G 59).f__law_near (.cons (.var 2) (.cons (.var 4) .nil)))) (tg := .nm 6) (own := [6])
    (fun Γ => ∃ bg, Bag bg ∧ Γ = [S, s1, .mt true bg, .dat x, .dat v, s5, .no, .no, .no, .no, .no]) Val (xs := rngD 0 4) (acc := []) (Γ := [S, s1, .mt true bg2, .dat x, .dat v, s5, .no, .no, .no, .no, .no]) (fun y hy Γ hI => by
      obtain ⟨bg, hb, rfl⟩ := hI
      obtain ⟨d, bg', h1, h2, h3⟩ := Nr.2 bg v hb hv
      have c := callIo (Γ := [S, s1, .mt true bg, .dat x, .dat v, s5, .dat y, .no, .no, .no, .no]) (i := 2) (b := true) Nr.1 rfl h3
      refine ⟨[S, s1, .mt true bg, .dat x, .dat v, s5, .dat y, .no, .no, .no, .no], .dat d, [S, s1, .mt true bg', .dat x, .dat v, s5, .dat y, .no, .no, .no, .no], d, [S, s1, .mt true bg', .dat x, .dat v, s5, .dat y, .no, .no, .no, .no], rfl, rfl, ?_, rfl, h2, bg', h1, rfl⟩
      generalize (G 59).f__law_near = f at c
      simp [ev_var, ev_con, ev_prim, ev_mk, ev_call, ev_and, ev_or, ev_not, ev_ifx, ev_chn, evA_nil, evA_cons, bind_ok, c]) ⟨bg2, hb2, rfl⟩ nofun
  have lp := ev_lc (Γ := [S, s1, .mt true bg2, .dat x, .dat v, s5, .no, .no, .no, .no, .no]) (g := gRng1) (as := .cons (.con (.int 4)) .nil) (tg := .nm 6) (own := [6]) (c := .con (.bl true)) (e := .call (G 59).f__law_near (.cons (.var 2) (.cons (.var 4) .nil))) (ls := [.dat (.int 4)]) rfl rfl rfl (by decide) rfl l1
  rw [show keepG [6] [S, s1, Slot.mt true bg2, Slot.dat x, Slot.dat v, s5, Slot.no, Slot.no, Slot.no, Slot.no, Slot.no] (unlockA (locks [S, s1, Slot.mt true bg2, Slot.dat x, Slot.dat v, s5, Slot.no, Slot.no, Slot.no, Slot.no, Slot.no] [Vl.dat (D.int 4)]) [S, s1, Slot.mt true bg3, Slot.dat x, Slot.dat v, s5, Slot.no, Slot.no, Slot.no, Slot.no, Slot.no]) = [S, s1, .mt true bg3, .dat x, .dat v, s5, .no, .no, .no, .no, .no] from rfl] at lp
  have l44 : ds.length = 4 := by rw [l4]; rfl
  have ad : pBin .Add [.lst [v], .lst ds] = some (.new (.lst (v :: ds))) := if_pos (Nat.le_trans (show [v].length + ds.length ≤ 5 by simp; omega) (by decide))
  obtain ⟨Γ5, f1, ⟨s5', rfl⟩⟩ := for_inv (eb := exs 1000 (innB (G 59))) (tg := .nm 5) (fun Γ => ∃ s5, Γ = [S, s1, .mt true bg3, .dat x, .dat v, s5, .no, .no, .no, .no, .no]) (xs := v :: ds) (Γ := [S, s1, .mt true bg3, .dat x, .dat v, s5, .no, .no, .no, .no, .no]) (fun y hy Γ hI => by
    obtain ⟨s5, rfl⟩ := hI
    refine ⟨_, _, rfl, inn_ok S s1 (.mt true bg3) (.dat x) (.dat v) y ?_, _, rfl⟩
    rcases List.mem_cons.mp hy with e | e
    · rw [e]; exact vv
    · exact l3 y e) ⟨s5, rfl⟩
  have ea : evA (.cons (.prim (pBin .Add) (.cons (.mk dLst (.cons (.var 4) .nil)) (.cons (.lc gRng1 (.cons (.con (.int 4)) .nil) (.nm 6) [6] (.con (.bl true)) (.call (G 59).f__law_near (.cons (.var 2) (.cons (.var 4) .nil)))) .nil))) .nil) [S, s1, .mt true bg2, .dat x, .dat v, s5, .no, .no, .no, .no, .no] = .ok [.new (.lst (v :: ds))] [S, s1, .mt true bg3, .dat x, .dat v, s5, .no, .no, .no, .no, .no] := by
    generalize hT : (Tm.lc gRng1 (.cons (.con (.int 4)) .nil) (.nm 6) [6] (.con (.bl true)) (.call (G 59).f__law_near (.cons (.var 2) (.cons (.var 4) .nil)))) = t at lp
    have dl : dLst [v] = some (.new (.lst [v])) := rfl
    simp [ev_var, ev_con, ev_prim, ev_mk, ev_call, ev_and, ev_or, ev_not, ev_ifx, ev_chn, evA_nil, evA_cons, bind_ok, escA, esc, dl, Ou.vl, lp, resA, res, ad]
  have fo := ex_for (n := 1000) (g := gSeq) (tg := .nm 5) (b := innB (G 59)) ea (ds := [.lst (v :: ds)]) (xs := v :: ds) rfl rfl f1
  rw [show unlockA (locks [S, s1, Slot.mt true bg3, Slot.dat x, Slot.dat v, s5, Slot.no, Slot.no, Slot.no, Slot.no, Slot.no] [Vl.new (D.lst (v :: ds))]) [S, s1, Slot.mt true bg3, Slot.dat x, Slot.dat v, s5', Slot.no, Slot.no, Slot.no, Slot.no, Slot.no] = [S, s1, .mt true bg3, .dat x, .dat v, s5', .no, .no, .no, .no, .no] from rfl] at fo
  refine ⟨_, [S, s1, .mt true bg3, .dat x, .dat v, s5', .no, .no, .no, .no, .no], rfl, ?_, bg3, _, _, _, hb3, .inr ⟨v, rfl⟩, rfl⟩
  have sh : midB (G 59) = .cons (.set 4 (.call (G 59).f__law_expression (.cons (.var 2) (.cons (.prim (pBin .Add) (.cons (.con (.int 2)) (.cons (.call (G 59).f__law_throw (.cons (.var 2) (.cons (.con (.int 4)) .nil))) .nil))) .nil)))) (.cons (.for gSeq (.cons (.prim (pBin .Add) (.cons (.mk dLst (.cons (.var 4) .nil)) (.cons (.lc gRng1 (.cons (.con (.int 4)) .nil) (.nm 6) [6] (.con (.bl true)) (.call (G 59).f__law_near (.cons (.var 2) (.cons (.var 4) .nil)))) .nil))) .nil) (.nm 5) (innB (G 59))) .nil) := rfl
  rw [sh]
  generalize hF : (Sm.for gSeq (.cons (.prim (pBin .Add) (.cons (.mk dLst (.cons (.var 4) .nil)) (.cons (.lc gRng1 (.cons (.con (.int 4)) .nil) (.nm 6) [6] (.con (.bl true)) (.call (G 59).f__law_near (.cons (.var 2) (.cons (.var 4) .nil)))) .nil))) .nil) (.nm 5) (innB (G 59))) = fs at fo
  generalize (G 59).f__law_expression = fe at c2
  generalize (G 59).f__law_throw = ft at c1
  simp [ex_set, ex_ret, ex_ite, ex_drop, ex_sub, ex_par, ex_unp, exs_nil, exs_cons, ev_var, ev_con, ev_prim, ev_mk, ev_call, ev_and, ev_or, ev_not, ev_ifx, ev_chn, evA_nil, evA_cons, bind_ok, c1, resA, res, pb_add, Ou.vl, c2, store, esc, fo]
end Lw

end
-- P7
section
namespace Lw
open PySem L2 MP
def Out (S : Slot) (Γ : List Slot) : Prop := ∃ s1 s2 s3 s4 s5, (s4 = .no ∨ ∃ d, s4 = .dat d) ∧ Γ = [S, s1, s2, s3, s4, s5, .no, .no, .no, .no, .no]
theorem callN {f : Fn} {d e bg : D} {Γ : List Slot} (io : f.io = [false, false]) (h : f.F [d, e] = .ok (.new bg) []) : evCall f [.dat d, .dat e] Γ = .ok (.new bg) Γ := call2 io h
theorem out_ok (ns : List Int) (x : D) (hx : x ∈ rngD 0 100) (Γ : List Slot) (h : Out (.dat (.lst (ns.map D.int))) Γ) : ∃ Γ1 Γ2, bnd (.nm 1) x Γ = some Γ1 ∧ exs 1000 (outB (G 59)) Γ1 = .ok .nx Γ2 ∧ Out (.dat (.lst (ns.map D.int))) Γ2 := by
  obtain ⟨s1, s2, s3, s4, s5, h4, rfl⟩ := h
  obtain ⟨i, rfl⟩ : ∃ i : Nat, x = .int (i : Nat) := by
    simp only [rngD, List.mem_map] at hx
    obtain ⟨i, _, rfl⟩ := hx
    exact ⟨i, by simp⟩
  obtain ⟨bg, hb, e1⟩ := start_ok (G 58) ns (i : Nat) (by omega)
  have c1 := callN (f := (G 59).f__law_start) (Γ := [.dat (.lst (ns.map D.int)), .dat (.int (i : Nat)), s2, s3, s4, s5, .no, .no, .no, .no, .no]) rfl e1
  obtain ⟨Γ', f1, bg', t3, t4, t5, hb', h4', rfl⟩ := for_inv (eb := exs 1000 (midB (G 59))) (tg := .nm 3) (Mid (.dat (.lst (ns.map D.int))) (.dat (.int (i : Nat)))) (xs := rngD 0 5) (Γ := [.dat (.lst (ns.map D.int)), .dat (.int (i : Nat)), .mt true bg, s3, s4, s5, .no, .no, .no, .no, .no])
    (fun y _ Γ hI => mid_ok _ _ y Γ hI) ⟨bg, s3, s4, s5, hb, h4, rfl⟩
  have fo := ex_for (n := 1000) (Γ := [.dat (.lst (ns.map D.int)), .dat (.int (i : Nat)), .mt true bg, s3, s4, s5, .no, .no, .no, .no, .no]) (g := gRng1) (as := .cons (.con (.int 5)) .nil) (tg := .nm 3) (b := midB (G 59)) (ls := [.dat (.int 5)]) (ds := [.int 5]) (xs := rngD 0 5) rfl rfl rfl f1
  have sh : outB (G 59) = .cons (.set 2 (.call (G 59).f__law_start (.cons (.var 0) (.cons (.var 1) .nil)))) (.cons (.for gRng1 (.cons (.con (.int 5)) .nil) (.nm 3) (midB (G 59))) .nil) := rfl
  refine ⟨_, [.dat (.lst (ns.map D.int)), .dat (.int (i : Nat)), .mt true bg', t3, t4, t5, .no, .no, .no, .no, .no], rfl, ?_, .dat (.int (i : Nat)), .mt true bg', t3, t4, t5, h4', rfl⟩
  rw [sh]
  rw [show unlockA (locks [.dat (.lst (ns.map D.int)), .dat (.int (i : Nat)), .mt true bg, s3, s4, s5, .no, .no, .no, .no, .no] [Vl.dat (D.int 5)]) [.dat (.lst (ns.map D.int)), .dat (.int (i : Nat)), .mt true bg', t3, t4, t5, .no, .no, .no, .no, .no] = [.dat (.lst (ns.map D.int)), .dat (.int (i : Nat)), .mt true bg', t3, t4, t5, .no, .no, .no, .no, .no] from rfl] at fo
  generalize hF : (Sm.for gRng1 (.cons (.con (.int 5)) .nil) (.nm 3) (midB (G 59))) = fs at fo
  generalize (G 59).f__law_start = fe at c1
  generalize D.lst (ns.map D.int) = L at *
  simp [ex_set, ex_ret, ex_ite, ex_drop, ex_sub, ex_par, ex_unp, exs_nil, exs_cons, ev_var, ev_con, ev_prim, ev_mk, ev_call, ev_and, ev_or, ev_not, ev_ifx, ev_chn, evA_nil, evA_cons, bind_ok, c1, store, fo]
def good (r : Rs Fl) : Bool := match r with
  | .ok (.rt (.dat (.bl true))) (_ :: _) => true
  | _ => false
theorem rest_no (S s1 s2 s3 s5 : Slot) : good (exs 1000 (tl (tm_law (G 59))) [S, s1, s2, s3, .no, s5, .no, .no, .no, .no, .no]) = true := by kernel_rfl
theorem rest_dat (S s1 s2 s3 s5 : Slot) (d : D) : good (exs 1000 (tl (tm_law (G 59))) [S, s1, s2, s3, .dat d, s5, .no, .no, .no, .no, .no]) = true := by kernel_rfl
theorem good_ok {r : Rs Fl} (h : good r = true) : ∃ a Γ, r = .ok (.rt (.dat (.bl true))) (a :: Γ) := by
  unfold good at h
  split at h
  · exact ⟨_, _, rfl⟩
  · cases h
theorem law_true (ns : List Int) : (G 60).f_law.F [.lst (ns.map D.int)] = .ok (.dat (.bl true)) [] := by
  have hlen : pLen [.lst (ns.map D.int)] = some (.dat (.int ns.length)) := by simp [pLen]
  have pmn : pMin [.int 6, .int ns.length] = some (.dat (.int (if (ns.length : Int) < 6 then ns.length else 6))) := rfl
  have pmx : ∀ j, pMax [.int 1, .int j] = some (.dat (.int (if j > 1 then j else 1))) := fun _ => rfl
  obtain ⟨m, hm0, hm1, hm2⟩ : ∃ m : Int, 1 ≤ m ∧ m ≤ 6 ∧ (if (if (ns.length : Int) < 6 then (ns.length : Int) else 6) > 1 then (if (ns.length : Int) < 6 then (ns.length : Int) else 6) else 1) = m := by
    refine ⟨_, ?_, ?_, rfl⟩
    · split <;> omega
    · split <;> (try split) <;> omega
  have gr : gRng1 [.int m] = some (rngD 0 m) := if_pos ⟨by simp only [R62]; omega, by simp only [R62]; omega⟩
  have sub : ∀ x ∈ rngD 0 m, x ∈ rngD 0 100 := fun x hx => by
    simp only [rngD, List.mem_map, List.mem_range] at hx ⊢
    obtain ⟨i, hi, rfl⟩ := hx
    exact ⟨i, by omega, rfl⟩
  obtain ⟨Γ', f1, s1, s2, s3, s4, s5, h4, rfl⟩ := for_inv (eb := exs 1000 (outB (G 59))) (tg := .nm 1) (Out (.dat (.lst (ns.map D.int)))) (xs := rngD 0 m) (Γ := [.dat (.lst (ns.map D.int)), .no, .no, .no, .no, .no, .no, .no, .no, .no, .no])
    (fun y hy Γ hI => out_ok ns y (sub y hy) Γ hI) ⟨_, _, _, _, _, .inl rfl, rfl⟩
  have ea : evA (.cons (.prim pMax (.cons (.con (.int 1)) (.cons (.prim pMin (.cons (.con (.int 6)) (.cons (.prim pLen (.cons (.var 0) .nil)) .nil))) .nil))) .nil) [.dat (.lst (ns.map D.int)), .no, .no, .no, .no, .no, .no, .no, .no, .no, .no] = .ok [.dat (.int m)] [.dat (.lst (ns.map D.int)), .no, .no, .no, .no, .no, .no, .no, .no, .no, .no] := by
    generalize D.lst (ns.map D.int) = L at *
    simp only [ev_var, ev_con, ev_prim, ev_mk, ev_call, ev_and, ev_or, ev_not, ev_ifx, ev_chn, evA_nil, evA_cons, bind_ok, resA, res, hlen, Ou.vl, pmn, pmx, hm2, List.getElem?_cons_zero]
  have fo := ex_for (n := 1000) (g := gRng1) (tg := .nm 1) (b := outB (G 59)) ea (ds := [.int m]) (xs := rngD 0 m) rfl gr f1
  rw [show unlockA (locks [Slot.dat (.lst (ns.map D.int)), .no, .no, .no, .no, .no, .no, .no, .no, .no, .no] [Vl.dat (D.int m)]) [.dat (.lst (ns.map D.int)), s1, s2, s3, s4, s5, .no, .no, .no, .no, .no] = [.dat (.lst (ns.map D.int)), s1, s2, s3, s4, s5, .no, .no, .no, .no, .no] from rfl] at fo
  have rest : ∃ a Γ, exs 1000 (tl (tm_law (G 59))) [.dat (.lst (ns.map D.int)), s1, s2, s3, s4, s5, .no, .no, .no, .no, .no] = .ok (.rt (.dat (.bl true))) (a :: Γ) := by
    rcases h4 with rfl | ⟨d, rfl⟩
    · exact good_ok (rest_no _ _ _ _ _)
    · exact good_ok (rest_dat _ _ _ _ _ _)
  obtain ⟨a, Γ2, rest⟩ := rest
  have body : exs 1000 (tm_law (G 59)) [.dat (.lst (ns.map D.int)), .no, .no, .no, .no, .no, .no, .no, .no, .no, .no] = .ok (.rt (.dat (.bl true))) (a :: Γ2) := by
    have sh : tm_law (G 59) = .cons (.for gRng1 (.cons (.prim pMax (.cons (.con (.int 1)) (.cons (.prim pMin (.cons (.con (.int 6)) (.cons (.prim pLen (.cons (.var 0) .nil)) .nil))) .nil))) .nil) (.nm 1) (outB (G 59))) (tl (tm_law (G 59))) := rfl
    rw [sh, exs_cons, fo]
    exact rest
  show runF [false] 10 1000 (tm_law (G 59)) [.lst (ns.map D.int)] = _
  unfold runF
  rw [if_pos (show [D.lst (ns.map D.int)].length = [false].length from rfl)]
  show (match exs 1000 (tm_law (G 59)) [.dat (.lst (ns.map D.int)), .no, .no, .no, .no, .no, .no, .no, .no, .no, .no] with
    | .ok f Γ => _
    | .exn x Γ => _
    | .stuck => _) = _
  rw [body]
  rfl
end Lw
theorem k06_holds : PySem.Challenge.rw_loadgaps_k06_needs.Holds := law_end fun ns _ => Lw.law_true ns

end
theorem PySem.Challenge.cw_loadgaps_k06_needs_holds : PySem.Challenge.rw_loadgaps_k06_needs.Holds := by
  exact k06_holds
