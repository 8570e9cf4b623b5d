import PyProof.Rows.All
import Wide.All
import OpenK.AllK
import Wide.FinOn
import HandS.ForMost
import HandS.Evl
import HandS.Exc
import HandS.ExcOwn
import HandS.HeadHook1
import HandS.Ends
import HandS.HeadEnd
import HandS.Defaults
import HandS.CallSlots
import HandS.WordsExc
import PyProof.RulesMatch
import HandS.Deep
import HandS.IsInst
import HandS.TupMul
import HandS.TupAny
import HandS.Wide
import HandS.Text
import HandS.TupLe
import HandS.SortInts
import HandS.SortKw
import HandS.RaiseMore
import HandS.Iter
import HandS.Dict
import HandS.More
import HandS.Property
import HandS.OwnEq
import HandS.Codes
import HandS.DictTup
import HandS.DictComp
import HandS.Conv
import PyProof.FactsAll.object_2
import PyProof.InstNe
import HandS.DictEq
import HandS.SortRule
import HandS.NamedTupSort
import HandS.TupSets
import HandS.SetFor
import HandS.Strs
import KE.GoesMore
import HandS.Style
import HandS.HeadHook4
import HandS.Head2
import HandS.HeadHook2
import KE.KStateDown
import HandS.Words
import HandS.Head0
import HandS.Head1
import PySem.Challenge.RW_loadgaps_k54_bounded_jobs
set_option Elab.async false
set_option linter.all false
set_option maxRecDepth 100000
set_option maxHeartbeats 0
-- MP0
section
/-! MP0: pure values, how they lie in the heap, configurations. -/
namespace MP
open PySem L2

/-- pure values; a dict by its keys and its values, an object by its class, its fields' names and values -/
inductive D where
  | non | bl (b : Bool) | int (i : Int) | str (x : Str)
  | tup (xs : List D) | lst (xs : List D) | dct (ks vs : List D) | obj (c : Str) (ns : List Str) (vs : List D)

abbrev Ex (H H' : Hp) : Prop := Evl.Ex H H'
theorem Ex.refl (H : Hp) : Ex H H := fun _ _ h => h
theorem Ex.trans {H H1 H2 : Hp} (a : Ex H H1) (b : Ex H1 H2) : Ex H H2 := fun x o h => b x o (a x o h)
theorem Ex.new {H : Hp} {p : Addr} {o : HO} (h : H p = none) : Ex H (upd H p o) := Evl.Ex.new h
/-- a world is held by a heap; what stands there may be locked -/
def isTB : HO → Bool
  | .tup _ => true
  | _ => false
/-- there, perhaps locked, but for tuples -/
def LR (H : Hp) (a : Addr) (o : HO) : Prop := H a = some o ∨ ∃ ob, H a = some (.frz ob o) ∧ isTB o = false
theorem LR.rd {H : Hp} {a : Addr} {o : HO} (h : LR H a o) : Rd H a o := by
  rcases h with h | ⟨ob, h, _⟩
  · exact .inl h
  · exact .inr ⟨ob, h⟩
theorem LR.tup {H : Hp} {a : Addr} {xs : List V} (h : LR H a (.tup xs)) : H a = some (.tup xs) := by
  rcases h with h | ⟨ob, _, h⟩
  · exact h
  · cases h
def Le (W H : Hp) : Prop := ∀ a o, W a = some o → LR H a o
theorem Le.rd {W H : Hp} (l : Le W H) {a : Addr} {o : HO} (h : W a = some o) : Rd H a o := (l a o h).rd
theorem Le.of {W H : Hp} (e : Ex W H) : Le W H := fun a o h => .inl (e a o h)
theorem Ex.le {W W' H : Hp} (e : Ex W W') (l : Le W' H) : Le W H := fun a o h => l a o (e a o h)

/-- the tuples of the written part: the empty one, long ones that begin with a text -/
def kOk : List V → Bool
  | [] => true
  | .str _ :: r => decide (3 ≤ r.length)
  | _ => false
/-- a tuple, a list of the written part -/
def KTup (K : PySem.W.Frag) (a : Addr) (xs : List V) : Prop := kOk xs = true ∧ ∃ (o : Obj) (its : Array Value) (n : Nat), K.lookup a = some o ∧ o.cls = .type "tuple" ∧ o.data = .seq its n ∧ its.size ≤ sizeLine ∧ Vals xs its.toList
def TupAt (K : PySem.W.Frag) (W : Hp) (a : Addr) (xs : List V) : Prop := W a = some (.tup xs) ∨ KTup K a xs
theorem TupAt.sq {K : PySem.W.Frag} {W H : Hp} {a : Addr} {xs : List V} (l : Le W H) (h : TupAt K W a xs) : SqT K H a xs := by
  rcases h with h | h
  · exact .inl (l.rd h)
  · exact .inr h.2
theorem TupAt.mono {K : PySem.W.Frag} {W W' : Hp} {a : Addr} {xs : List V} (e : Ex W W') (h : TupAt K W a xs) : TupAt K W' a xs := by
  rcases h with h | h
  · exact .inl (e a _ h)
  · exact .inr h

def KLst (K : PySem.W.Frag) (a : Addr) (xs : List V) : Prop := ∃ (o : Obj) (its : Array Value) (n : Nat), K.lookup a = some o ∧ o.cls = .type "list" ∧ o.dict = none ∧ o.data = .seq its n ∧ its.size ≤ sizeLine ∧ Vals xs its.toList
def LstAt (K : PySem.W.Frag) (W : Hp) (a : Addr) (xs : List V) : Prop := W a = some (.lst xs) ∨ KLst K a xs
theorem LstAt.sq {K : PySem.W.Frag} {W H : Hp} {a : Addr} {xs : List V} (l : Le W H) (h : LstAt K W a xs) : SqL K H a xs := by
  rcases h with h | h
  · exact .inl (l.rd h)
  · exact .inr h
theorem LstAt.mono {K : PySem.W.Frag} {W W' : Hp} {a : Addr} {xs : List V} (e : Ex W W') (h : LstAt K W a xs) : LstAt K W' a xs := by
  rcases h with h | h
  · exact .inl (e a _ h)
  · exact .inr h

def kD : Key → D
  | .inl i => .int i
  | .inr x => .str x

mutual
/-- the value v is the datum d, over the world W -/
inductive Dr (K : PySem.W.Frag) (W : Hp) : V → D → Prop
  | non : Dr K W .non .non
  | bl (b : Bool) : Dr K W (.bl b) (.bl b)
  | int (i : Int) : Dr K W (.int i) (.int i)
  | str (x : Str) : Dr K W (.str x) (.str x)
  | tup {a : Addr} {vs : List V} {ds : List D} : TupAt K W a vs → DrA K W vs ds → Dr K W (.ref a) (.tup ds)
  | lst {a : Addr} {vs : List V} {ds : List D} : LstAt K W a vs → DrA K W vs ds → Dr K W (.ref a) (.lst ds)
  | dK {a : Addr} {kvs : List (Key × V)} {ds : List D} : W a = some (.dK kvs) → DrA K W (kvs.map (·.2)) ds → Dr K W (.ref a) (.dct (kvs.map fun p => kD p.1) ds)
  | dT {a : Addr} {kvs : List (List Key × V)} {ds : List D} : kvs ≠ [] → W a = some (.dT kvs) → DrA K W (kvs.map (·.2)) ds → Dr K W (.ref a) (.dct (kvs.map fun p => .tup (p.1.map kD)) ds)
  | obj {a dx : Addr} {c : Str} {fs : List (Str × V)} {ds : List D} : W a = some (.ins (He.ga K c) dx fs) → DrA K W (fs.map (·.2)) ds → Dr K W (.ref a) (.obj c (fs.map (·.1)) ds)
inductive DrA (K : PySem.W.Frag) (W : Hp) : List V → List D → Prop
  | nil : DrA K W [] []
  | cons {v : V} {vs : List V} {d : D} {ds : List D} : Dr K W v d → DrA K W vs ds → DrA K W (v :: vs) (d :: ds)
end

mutual
theorem Dr.mono {K : PySem.W.Frag} {W W' : Hp} (e : Ex W W') : ∀ {v : V} {d : D}, Dr K W v d → Dr K W' v d
  | _, _, .non => .non
  | _, _, .bl b => .bl b
  | _, _, .int i => .int i
  | _, _, .str x => .str x
  | _, _, .tup h r => .tup (h.mono e) (r.mono e)
  | _, _, .lst h r => .lst (h.mono e) (r.mono e)
  | _, _, .dK h r => .dK (e _ _ h) (r.mono e)
  | _, _, .dT n h r => .dT n (e _ _ h) (r.mono e)
  | _, _, .obj h r => .obj (e _ _ h) (r.mono e)
theorem DrA.mono {K : PySem.W.Frag} {W W' : Hp} (e : Ex W W') : ∀ {vs : List V} {ds : List D}, DrA K W vs ds → DrA K W' vs ds
  | _, _, .nil => .nil
  | _, _, .cons h r => .cons (h.mono e) (r.mono e)
end
theorem DrA.length {K : PySem.W.Frag} {W : Hp} : ∀ {vs : List V} {ds : List D}, DrA K W vs ds → vs.length = ds.length
  | _, _, .nil => rfl
  | _, _, .cons _ r => by simp [r.length]
theorem DrA.append {K : PySem.W.Frag} {W : Hp} : ∀ {vs us : List V} {ds es : List D}, DrA K W vs ds → DrA K W us es → DrA K W (vs ++ us) (ds ++ es)
  | _, _, _, _, .nil, s => s
  | _, _, _, _, .cons h r, s => .cons h (r.append s)
theorem DrA.get {K : PySem.W.Frag} {W : Hp} : ∀ {vs : List V} {ds : List D} {i : Nat} {d : D}, DrA K W vs ds → ds[i]? = some d → ∃ v, vs[i]? = some v ∧ Dr K W v d
  | _, _, _, _, .nil, e => by simp at e
  | _, _, 0, _, .cons h _, e => by simp at e; subst e; exact ⟨_, rfl, h⟩
  | _, _, i + 1, d, .cons _ r, e => by
    obtain ⟨v, h1, h2⟩ := DrA.get (i := i) (d := d) r (by simpa using e)
    exact ⟨v, by simpa using h1, h2⟩
theorem DrA.getV {K : PySem.W.Frag} {W : Hp} : ∀ {vs : List V} {ds : List D} {i : Nat} {v : V}, DrA K W vs ds → vs[i]? = some v → ∃ d, ds[i]? = some d ∧ Dr K W v d
  | _, _, _, _, .nil, e => by simp at e
  | _, _, 0, _, .cons h _, e => by simp at e; subst e; exact ⟨_, rfl, h⟩
  | _, _, i + 1, v, .cons _ r, e => by
    obtain ⟨d, h1, h2⟩ := DrA.getV (i := i) (v := v) r (by simpa using e)
    exact ⟨d, by simpa using h1, h2⟩
theorem DrA.set {K : PySem.W.Frag} {W : Hp} {v : V} {d : D} (h : Dr K W v d) : ∀ {vs : List V} {ds : List D} (i : Nat), DrA K W vs ds → DrA K W (vs.set i v) (ds.set i d)
  | _, _, _, .nil => .nil
  | _, _, 0, .cons _ r => .cons h r
  | _, _, i + 1, .cons q r => .cons q (DrA.set h i r)
theorem DrA.take {K : PySem.W.Frag} {W : Hp} : ∀ {vs : List V} {ds : List D} (n : Nat), DrA K W vs ds → DrA K W (vs.take n) (ds.take n)
  | _, _, 0, _ => .nil
  | _, _, _ + 1, .nil => .nil
  | _, _, n + 1, .cons h r => .cons h (DrA.take n r)
theorem DrA.drop {K : PySem.W.Frag} {W : Hp} : ∀ {vs : List V} {ds : List D} (n : Nat), DrA K W vs ds → DrA K W (vs.drop n) (ds.drop n)
  | _, _, 0, r => r
  | _, _, _ + 1, .nil => .nil
  | _, _, n + 1, .cons _ r => DrA.drop n r
theorem DrA.reverse {K : PySem.W.Frag} {W : Hp} : ∀ {vs : List V} {ds : List D}, DrA K W vs ds → DrA K W vs.reverse ds.reverse
  | _, _, .nil => .nil
  | _, _, .cons h r => by
    rw [List.reverse_cons, List.reverse_cons]
    exact (DrA.reverse r).append (.cons h .nil)
theorem DrA.eraseIdx {K : PySem.W.Frag} {W : Hp} : ∀ {vs : List V} {ds : List D} (n : Nat), DrA K W vs ds → DrA K W (vs.eraseIdx n) (ds.eraseIdx n)
  | _, _, _, .nil => .nil
  | _, _, 0, .cons _ r => r
  | _, _, n + 1, .cons h r => .cons h (DrA.eraseIdx n r)
theorem DrA.ints {K : PySem.W.Frag} {W : Hp} : ∀ {ns : List Int}, DrA K W (ns.map V.int) (ns.map D.int)
  | [] => .nil
  | _ :: _ => .cons (.int _) DrA.ints
theorem DrA.toInts {K : PySem.W.Frag} {W : Hp} : ∀ {ns : List Int} {vs : List V}, DrA K W vs (ns.map D.int) → vs = ns.map V.int
  | [], _, .nil => rfl
  | n :: ns, _, .cons h r => by
    cases h
    rw [DrA.toInts r]
    rfl
theorem DrA.toBools {K : PySem.W.Frag} {W : Hp} : ∀ {bs : List Bool} {vs : List V}, DrA K W vs (bs.map D.bl) → vs = bs.map V.bl
  | [], _, .nil => rfl
  | n :: ns, _, .cons h r => by
    cases h
    rw [DrA.toBools r]
    rfl

/-- the object at a, changeable, holds d -/
inductive MutAt (K : PySem.W.Frag) (W H : Hp) (a : Addr) : D → Prop
  | lst {vs : List V} {ds : List D} : H a = some (.lst vs) → DrA K W vs ds → MutAt K W H a (.lst ds)
  | dK {kvs : List (Key × V)} {ds : List D} : H a = some (.dK kvs) → DrA K W (kvs.map (·.2)) ds → MutAt K W H a (.dct (kvs.map fun p => kD p.1) ds)
  | dT {kvs : List (List Key × V)} {ds : List D} : kvs ≠ [] → H a = some (.dT kvs) → DrA K W (kvs.map (·.2)) ds → MutAt K W H a (.dct (kvs.map fun p => .tup (p.1.map kD)) ds)
  | obj {dx : Addr} {c : Str} {fs : List (Str × V)} {ds : List D} : H a = some (.ins (He.ga K c) dx fs) → DrA K W (fs.map (·.2)) ds → MutAt K W H a (.obj c (fs.map (·.1)) ds)
theorem MutAt.there {K : PySem.W.Frag} {W H : Hp} {a : Addr} {d : D} (h : MutAt K W H a d) : ∃ o, H a = some o ∧ ∀ W', (W' a = some o) → Ex W W' → Dr K W' (.ref a) d := by
  cases h with
  | lst e r => exact ⟨_, e, fun W' w x => .lst (.inl w) (r.mono x)⟩
  | dK e r => exact ⟨_, e, fun W' w x => .dK w (r.mono x)⟩
  | dT n e r => exact ⟨_, e, fun W' w x => .dT n w (r.mono x)⟩
  | obj e r => exact ⟨_, e, fun W' w x => .obj w (r.mono x)⟩
theorem MutAt.mono {K : PySem.W.Frag} {W W' H H' : Hp} {a : Addr} {d : D} (h : MutAt K W H a d) (x : Ex W W') (e : ∀ o, H a = some o → H' a = some o) : MutAt K W' H' a d := by
  cases h with
  | lst q r => exact .lst (e _ q) (r.mono x)
  | dK q r => exact .dK (e _ q) (r.mono x)
  | dT n q r => exact .dT n (e _ q) (r.mono x)
  | obj q r => exact .obj (e _ q) (r.mono x)
theorem MutAt.ne {K : PySem.W.Frag} {W H : Hp} {a : Addr} {d : D} (h : MutAt K W H a d) : H a ≠ none := by
  obtain ⟨o, e, _⟩ := h.there
  rw [e]; exact nofun

/-- a tuple stands there -/
def IsT (H : Hp) (a : Addr) : Prop := ∃ ys, H a = some (.tup ys)
/-- what a walk may lock -/
def lkb : HO → Bool
  | .dK _ => true
  | .dT _ => true
  | _ => false
theorem MutAt.notT {K : PySem.W.Frag} {W H : Hp} {a : Addr} {d : D} (h : MutAt K W H a d) : ¬ IsT H a := fun ⟨ys, z⟩ => by
  cases h with
  | lst e _ => rw [e] at z; cases z
  | dK e _ => rw [e] at z; cases z
  | dT _ e _ => rw [e] at z; cases z
  | obj e _ => rw [e] at z; cases z

/-- what a slot holds: nothing known; a datum; a changeable thing (its own, or the caller's); a changeable thing that is walked -/
inductive Slot where
  | no | dat (d : D) | mt (own : Bool) (d : D) | lck (own : Bool) (d : D)
/-- what an expression gives: a datum; the changeable thing of a slot; a new changeable thing -/
inductive Vl where
  | dat (d : D) | ref (i : Nat) | new (d : D)
/-- a configuration: the entry's heap, the world, the slots, the frame, the heap -/
structure Cf where
  E : Hp
  W : Hp
  Γ : List Slot
  σ : St
  H : Hp
/-- the changeable addresses; with those that are walked -/
def Cf.mu (c : Cf) (a : Addr) : Prop := ∃ (i : Nat) (b : Bool) (d : D), c.Γ[i]? = some (.mt b d) ∧ c.σ[i]? = some (some (.ref a))
def IsM (Γ : List Slot) (i : Nat) : Prop := ∃ (b : Bool) (d : D), Γ[i]? = some (.mt b d) ∨ Γ[i]? = some (.lck b d)
def Cf.ad (c : Cf) (a : Addr) : Prop := ∃ i : Nat, IsM c.Γ i ∧ c.σ[i]? = some (some (.ref a))
theorem Cf.mu_ad {c : Cf} {a : Addr} (h : c.mu a) : c.ad a := let ⟨i, b, d, g, e⟩ := h; ⟨i, ⟨b, d, .inl g⟩, e⟩

structure Rel (K : PySem.W.Frag) (c : Cf) : Prop where
  len : c.Γ.length = c.σ.length
  le : Le c.W c.H
  ent : ∀ a, c.E a ≠ none → c.H a ≠ none
  dat : ∀ (i : Nat) (d : D), c.Γ[i]? = some (.dat d) → ∃ v, c.σ[i]? = some (some v) ∧ Dr K c.W v d
  am : ∀ (i : Nat) (b : Bool) (d : D), (c.Γ[i]? = some (.mt b d) ∨ c.Γ[i]? = some (.lck b d)) → ∃ a, c.σ[i]? = some (some (.ref a)) ∧ c.W a = none ∧ MutAt K c.W c.H a d ∧ (b = true → c.E a = none)
  dist : ∀ (i j : Nat) (a : Addr), IsM c.Γ i → IsM c.Γ j → c.σ[i]? = some (some (.ref a)) → c.σ[j]? = some (some (.ref a)) → i = j
theorem Rel.mt {K : PySem.W.Frag} {c : Cf} (R : Rel K c) (i : Nat) (b : Bool) (d : D) (g : c.Γ[i]? = some (.mt b d)) : ∃ a, c.σ[i]? = some (some (.ref a)) ∧ c.W a = none ∧ MutAt K c.W c.H a d ∧ (b = true → c.E a = none) := R.am i b d (.inl g)
theorem Rel.lk {K : PySem.W.Frag} {c : Cf} (R : Rel K c) (i : Nat) (b : Bool) (d : D) (g : c.Γ[i]? = some (.lck b d)) : ∃ a, c.σ[i]? = some (some (.ref a)) ∧ c.W a = none ∧ MutAt K c.W c.H a d ∧ (b = true → c.E a = none) := R.am i b d (.inr g)
theorem Rel.ad_ne {K : PySem.W.Frag} {c : Cf} (R : Rel K c) {a : Addr} (h : c.ad a) : c.H a ≠ none ∧ c.W a = none := by
  obtain ⟨i, ⟨b, d, g⟩, e⟩ := h
  obtain ⟨a', e1, e2, e3, _⟩ := R.am i b d g
  rw [e] at e1
  cases e1
  exact ⟨e3.ne, e2⟩

/-- from one configuration to a later one of the same def -/
structure Stp (c c' : Cf) : Prop where
  ent : c'.E = c.E
  w : Ex c.W c'.W
  fr : ∀ a o, c.H a = some o → ¬ c.mu a → (c.W a = none ∨ lkb o = false) → c'.H a = some o
  th : ∀ a, c.H a ≠ none → c'.H a ≠ none
  nw : ∀ a, c'.W a ≠ none → c.W a ≠ none ∨ c.H a = none ∨ c.mu a ∨ IsT c.H a
  mu : ∀ a, c'.mu a → c.mu a ∨ c.H a = none
  ad : ∀ a, c'.ad a → c.ad a ∨ c.H a = none
  lk : ∀ (i : Nat) (b : Bool) (d : D), c'.Γ[i]? = some (.lck b d) → (∃ d', c.Γ[i]? = some (.lck b d')) ∧ c'.σ[i]? = c.σ[i]?
  io : ∀ (i : Nat) (d : D), c'.Γ[i]? = some (.mt false d) → (∃ d', c.Γ[i]? = some (.mt false d')) ∧ c'.σ[i]? = c.σ[i]?
theorem Stp.refl (c : Cf) : Stp c c := ⟨rfl, Ex.refl _, fun _ _ h _ _ => h, fun _ h => h, fun _ h => .inl h, fun _ h => .inl h, fun _ h => .inl h, fun _ b d h => ⟨⟨d, h⟩, rfl⟩, fun _ d h => ⟨⟨d, h⟩, rfl⟩⟩
theorem ne_none {α : Type} {o : Option α} (h : o ≠ none) : ∃ x, o = some x := by
  cases o with
  | none => exact absurd rfl h
  | some x => exact ⟨x, rfl⟩
theorem Stp.trans {c c1 c2 : Cf} (s : Stp c c1) (t : Stp c1 c2) : Stp c c2 where
  ent := t.ent.trans s.ent
  w := s.w.trans t.w
  fr := fun a o h n g => by
    refine t.fr a o (s.fr a o h n g) (fun m => ?_) ?_
    · rcases s.mu a m with q | q
      · exact n q
      · rw [h] at q; cases q
    · rcases g with g | g
      · by_cases q : c1.W a = none
        · exact .inl q
        · rcases s.nw a q with z | z | z | ⟨ys, z⟩
          · exact absurd g z
          · rw [h] at z; cases z
          · exact absurd z n
          · rw [h] at z; cases z; exact .inr rfl
      · exact .inr g
  th := fun a h => t.th a (s.th a h)
  nw := fun a h => by
    by_cases hn : c.H a = none
    · exact .inr (.inl hn)
    rcases t.nw a h with q | q | q | q
    · exact s.nw a q
    · exact absurd q (s.th a hn)
    · rcases s.mu a q with q | q
      · exact .inr (.inr (.inl q))
      · exact .inr (.inl q)
    · by_cases hm : c.mu a
      · exact .inr (.inr (.inl hm))
      · by_cases hw : c.W a = none
        · cases e : c.H a with
          | none => exact absurd e hn
          | some o =>
            have e1 := s.fr a o e hm (.inl hw)
            obtain ⟨ys, q⟩ := q
            rw [e1] at q
            cases q
            exact .inr (.inr (.inr ⟨ys, e⟩))
        · exact .inl hw
  mu := fun a h => by
    rcases t.mu a h with q | q
    · exact s.mu a q
    · by_cases hn : c.H a = none
      · exact .inr hn
      · exact absurd q (s.th a hn)
  ad := fun a h => by
    rcases t.ad a h with q | q
    · exact s.ad a q
    · by_cases hn : c.H a = none
      · exact .inr hn
      · exact absurd q (s.th a hn)
  lk := fun i b d h => by
    obtain ⟨⟨d', g⟩, e⟩ := t.lk i b d h
    obtain ⟨z, e'⟩ := s.lk i b d' g
    exact ⟨z, e.trans e'⟩
  io := fun i d h => by
    obtain ⟨⟨d', g⟩, e⟩ := t.io i d h
    obtain ⟨z, e'⟩ := s.io i d' g
    exact ⟨z, e.trans e'⟩

/-- an expression's value; c0 ahead of it, c behind -/
inductive VRel (K : PySem.W.Frag) (c0 c : Cf) : V → Vl → Prop
  | dat {v : V} {d : D} : Dr K c.W v d → VRel K c0 c v (.dat d)
  | ref {v : V} {i : Nat} : c.σ[i]? = some (some v) → VRel K c0 c v (.ref i)
  | new {a : Addr} {d : D} : c0.H a = none → c.W a = none → ¬ c.ad a → MutAt K c.W c.H a d → VRel K c0 c (.ref a) (.new d)
theorem VRel.next {K : PySem.W.Frag} {c0 c c' : Cf} {v : V} {l : Vl} (h : VRel K c0 c v l) (s : Stp c c') (hσ : c'.σ = c.σ) : VRel K c0 c' v l := by
  cases h with
  | dat d => exact .dat (d.mono s.w)
  | ref e => exact .ref (by rw [hσ]; exact e)
  | @new a d h0 hw hm ha =>
    have hn := ha.ne
    refine .new h0 ?_ ?_ (ha.mono s.w fun o e => s.fr _ o e (fun z => hm (Cf.mu_ad z)) (.inl hw))
    · by_cases q : c'.W a = none
      · exact q
      · rcases s.nw _ q with z | z | z | z
        · exact absurd hw z
        · exact absurd z hn
        · exact absurd (Cf.mu_ad z) hm
        · exact absurd z ha.notT
    · intro q
      rcases s.ad _ q with z | z
      · exact hm z
      · exact hn z
theorem VRel.back {K : PySem.W.Frag} {c0 c1 c : Cf} {v : V} {l : Vl} (h : VRel K c1 c v l) (s : ∀ a, c1.H a = none → c0.H a = none) : VRel K c0 c v l := by
  cases h with
  | dat d => exact .dat d
  | ref e => exact .ref e
  | @new a d h0 hw hm ha => exact .new (s a h0) hw hm ha
theorem Stp.back {c c' : Cf} (s : Stp c c') : ∀ a, c'.H a = none → c.H a = none := fun a h => by
  by_cases q : c.H a = none
  · exact q
  · exact absurd h (s.th a q)
inductive VRelA (K : PySem.W.Frag) (c0 c : Cf) : List V → List Vl → Prop
  | nil : VRelA K c0 c [] []
  | cons {v : V} {vs : List V} {l : Vl} {ls : List Vl} : VRel K c0 c v l → VRelA K c0 c vs ls → (∀ d d', l = .new d → (v, Vl.new d') ∉ vs.zip ls) → VRelA K c0 c (v :: vs) (l :: ls)
theorem VRelA.next {K : PySem.W.Frag} {c0 c c' : Cf} (s : Stp c c') (hσ : c'.σ = c.σ) : ∀ {vs : List V} {ls : List Vl}, VRelA K c0 c vs ls → VRelA K c0 c' vs ls
  | _, _, .nil => .nil
  | _, _, .cons h r n => .cons (h.next s hσ) (r.next s hσ) n
theorem VRelA.back {K : PySem.W.Frag} {c0 c1 c : Cf} (s : ∀ a, c1.H a = none → c0.H a = none) : ∀ {vs : List V} {ls : List Vl}, VRelA K c1 c vs ls → VRelA K c0 c vs ls
  | _, _, .nil => .nil
  | _, _, .cons h r n => .cons (h.back s) (r.back s) n
theorem VRelA.fresh {K : PySem.W.Frag} {c0 c : Cf} : ∀ {vs : List V} {ls : List Vl} {a : Addr} {d : D}, VRelA K c0 c vs ls → (V.ref a, Vl.new d) ∈ vs.zip ls → c0.H a = none
  | _, _, _, _, .nil, h => by simp at h
  | _, _, a, d, .cons h r _, m => by
    rw [List.zip_cons_cons] at m
    rcases List.mem_cons.mp m with e | e
    · cases e
      cases h with
      | new h0 _ _ _ => exact h0
    · exact r.fresh e

/-- what a given thing holds now -/
def res (Γ : List Slot) : Vl → Option D
  | .dat d => some d
  | .new d => some d
  | .ref i => match Γ[i]? with
    | some (.dat d) => some d
    | some (.mt _ d) => some d
    | some (.lck _ d) => some d
    | _ => none
def resA (Γ : List Slot) : List Vl → Option (List D)
  | [] => some []
  | l :: ls => match res Γ l, resA Γ ls with
    | some d, some ds => some (d :: ds)
    | _, _ => none
/-- v is d, at least at its top changeable -/
inductive Top (K : PySem.W.Frag) (W H : Hp) : V → D → Prop
  | dat {v : V} {d : D} : Dr K W v d → Top K W H v d
  | mt {a : Addr} {d : D} : MutAt K W H a d → Top K W H (.ref a) d
inductive TopA (K : PySem.W.Frag) (W H : Hp) : List V → List D → Prop
  | nil : TopA K W H [] []
  | cons {v : V} {vs : List V} {d : D} {ds : List D} : Top K W H v d → TopA K W H vs ds → TopA K W H (v :: vs) (d :: ds)
theorem Rel.top {K : PySem.W.Frag} {c0 c : Cf} {v : V} {l : Vl} {d : D} (R : Rel K c) (h : VRel K c0 c v l) (e : res c.Γ l = some d) : Top K c.W c.H v d := by
  cases h with
  | dat q => cases e; exact .dat q
  | new _ _ _ q => cases e; exact .mt q
  | ref q =>
    rename_i i
    simp only [res] at e
    cases g : c.Γ[i]? with
    | none => rw [g] at e; cases e
    | some s =>
      rw [g] at e
      cases s with
      | no => cases e
      | dat d' =>
        cases e
        obtain ⟨v', e1, e2⟩ := R.dat _ _ g
        rw [q] at e1
        cases e1
        exact .dat e2
      | mt b d' =>
        cases e
        obtain ⟨a, e1, _, e2, _⟩ := R.mt _ _ _ g
        rw [q] at e1
        cases e1
        exact .mt e2
      | lck b d' =>
        cases e
        obtain ⟨a, e1, _, e2, _⟩ := R.lk _ _ _ g
        rw [q] at e1
        cases e1
        exact .mt e2
theorem Rel.topA {K : PySem.W.Frag} {c0 c : Cf} (R : Rel K c) : ∀ {vs : List V} {ls : List Vl} {ds : List D}, VRelA K c0 c vs ls → resA c.Γ ls = some ds → TopA K c.W c.H vs ds
  | _, _, _, .nil, e => by cases e; exact .nil
  | _, _, _, .cons (l := l) (ls := ls) h r _, e => by
    unfold resA at e
    cases e1 : res c.Γ l with
    | none => rw [e1] at e; cases e
    | some d =>
      cases e2 : resA c.Γ ls with
      | none => rw [e1, e2] at e; cases e
      | some ds =>
        rw [e1, e2] at e
        cases e
        exact .cons (R.top h e1) (R.topA r e2)

/-- what comes out of a built-in or a call: a datum, or a new changeable thing -/
inductive Ou where
  | dat (d : D) | new (d : D)
def Ou.vl : Ou → Vl
  | .dat d => .dat d
  | .new d => .new d
/-- new things only -/
structure PSt (W H W' H' : Hp) : Prop where
  w : Ex W W'
  h : Ex H H'
  le : Le W' H'
  nw : ∀ a, W' a ≠ none → W a ≠ none ∨ H a = none ∨ IsT H a
/-- new things, and walked dicts locked -/
structure PSl (W H W' H' : Hp) : Prop where
  w : Ex W W'
  h : ∀ a o, H a = some o → (W a = none ∨ lkb o = false) → H' a = some o
  th : ∀ a, H a ≠ none → H' a ≠ none
  le : Le W' H'
  nw : ∀ a, W' a ≠ none → W a ≠ none ∨ H a = none ∨ IsT H a
theorem PSt.sl {W H W' H' : Hp} (p : PSt W H W' H') : PSl W H W' H' := ⟨p.w, fun a o e _ => p.h a o e, fun a e => by
  obtain ⟨o, z⟩ := ne_none e
  rw [p.h a o z]; exact nofun, p.le, p.nw⟩
inductive ORel (K : PySem.W.Frag) (H W' H' : Hp) : V → Ou → Prop
  | dat {v : V} {d : D} : Dr K W' v d → ORel K H W' H' v (.dat d)
  | new {a : Addr} {d : D} : H a = none → W' a = none → MutAt K W' H' a d → ORel K H W' H' (.ref a) (.new d)
theorem PSt.refl {W H : Hp} (l : Le W H) : PSt W H W H := ⟨Ex.refl _, Ex.refl _, l, fun _ h => .inl h⟩
theorem PSt.trans {W H W1 H1 W2 H2 : Hp} (a : PSt W H W1 H1) (b : PSt W1 H1 W2 H2) : PSt W H W2 H2 :=
  ⟨a.w.trans b.w, a.h.trans b.h, b.le, fun x h => by
    rcases b.nw x h with q | q | ⟨ys, q⟩
    · exact a.nw x q
    · right; left
      cases e : H x with
      | none => rfl
      | some o => rw [a.h x o e] at q; cases q
    · cases e : H x with
      | none => exact .inr (.inl rfl)
      | some o => rw [a.h x o e] at q; cases q; exact .inr (.inr ⟨ys, e⟩)⟩
theorem Le.ext {W H H' : Hp} (l : Le W H) (e : Ex H H') : Le W H' := fun a o h => by
  rcases l a o h with q | ⟨ob, q, t⟩
  · exact .inl (e _ _ q)
  · exact .inr ⟨ob, e _ _ q, t⟩
theorem Le.no {W H : Hp} {p : Addr} (l : Le W H) (h : H p = none) : W p = none := by
  cases e : W p with
  | none => rfl
  | some o =>
    rcases l p o e with q | ⟨ob, q, _⟩
    · rw [h] at q; cases q
    · rw [h] at q; cases q
theorem Le.upd {W H : Hp} {p : Addr} {o : HO} (l : Le W H) (h : H p = none) : Le (upd W p o) (upd H p o) := fun a u e => by
  by_cases q : a = p
  · subst q
    rw [upd_same] at e
    cases e
    exact .inl upd_same
  · rw [upd_ne q] at e
    rcases l a u e with z | ⟨ob, z, t⟩
    · exact .inl (by rw [upd_ne q]; exact z)
    · exact .inr ⟨ob, by rw [upd_ne q]; exact z, t⟩
/-- a new frozen thing -/
theorem PSt.froz {W H : Hp} {p : Addr} {o : HO} (l : Le W H) (h : H p = none) : PSt W H (upd W p o) (upd H p o) :=
  ⟨Ex.new (l.no h), Ex.new h, l.upd h, fun a q => by
    by_cases z : a = p
    · subst z; exact .inr (.inl h)
    · rw [upd_ne z] at q; exact .inl q⟩
/-- a new changeable thing -/
theorem PSt.fresh {W H : Hp} {p : Addr} {o : HO} (l : Le W H) (h : H p = none) : PSt W H W (upd H p o) :=
  ⟨Ex.refl _, Ex.new h, l.ext (Ex.new h), fun a q => .inl q⟩

/-- a configuration behind a PSl -/
theorem Rel.psl {K : PySem.W.Frag} {c : Cf} {W' H' : Hp} (R : Rel K c) (p : PSl c.W c.H W' H') : Rel K ⟨c.E, W', c.Γ, c.σ, H'⟩ ∧ Stp c ⟨c.E, W', c.Γ, c.σ, H'⟩ := by
  have hw : ∀ {a d}, c.W a = none → MutAt K c.W c.H a d → W' a = none := fun {a d} h m => by
    by_cases q : W' a = none
    · exact q
    · rcases p.nw a q with z | z | z
      · exact absurd h z
      · exact absurd z m.ne
      · exact absurd z m.notT
  refine ⟨⟨R.len, p.le, fun a h => p.th a (R.ent a h), fun i d g => ?_, fun i b d g => ?_, R.dist⟩, ⟨rfl, p.w, fun a o h _ g => p.h a o h g, p.th, fun a h => ?_, fun a h => .inl h, fun a h => .inl h, fun i b d g => ⟨⟨d, g⟩, rfl⟩, fun i d g => ⟨⟨d, g⟩, rfl⟩⟩⟩
  · obtain ⟨v, e1, e2⟩ := R.dat i d g
    exact ⟨v, e1, e2.mono p.w⟩
  · obtain ⟨a, e1, e2, e3, e4⟩ := R.am i b d g
    exact ⟨a, e1, hw e2 e3, e3.mono p.w fun o q => p.h _ _ q (.inl e2), e4⟩
  · rcases p.nw a h with q | q | q
    · exact .inl q
    · exact .inr (.inl q)
    · exact .inr (.inr (.inr q))
theorem Rel.pst {K : PySem.W.Frag} {c : Cf} {W' H' : Hp} (R : Rel K c) (p : PSt c.W c.H W' H') : Rel K ⟨c.E, W', c.Γ, c.σ, H'⟩ ∧ Stp c ⟨c.E, W', c.Γ, c.σ, H'⟩ := R.psl p.sl
end MP

end
-- MPQ
section
/-! MPQ: a def's promise where no repr is under way. -/
namespace MP
open PySem L2 PySem.Spec PyProof.Rows
/-- as FnOk, where nothing is being shown -/
structure FnG (P : Program) (w : World) (K : PySem.W.Frag) (mg : Str → Option Value) (base : Heap) (CX : CXT) (k : Nat) (f : Addr) (fd : FuncData) (ps : List Str) (sp : Sp) : Prop where
  len : ∀ vs H Q E, sp vs H Q E → vs.length = ps.length
  run : ∀ (A : Around) (outer : List Env) (s : Shared) (H : Hp) (args : Args) (us : List Value) (vs : List V) (Q : VK) (E : XK), Room k A → A.guards = some [] → Env0 P w K mg base A outer s H → BindsTo s fd args (ps.zip us) → Vals vs us → sp vs H Q E →
    codeAny (model P w) A (.call (.ref f) args) (CR CX outer P w H s Q E) s
theorem deeper_guards {A : Around} {env : Env} (h : A.guards = some []) : (A.deeper env).guards = some [] := by
  first
  | exact h
  | (show (A.deeper env).guards = some []; unfold Around.deeper; simp [h])
theorem fnG_of {CX : CXT} {P : Program} {w : World} {K : PySem.W.Frag} {mg : Str → Option Value} {base : Heap} {k : Nat} {x qual : Str} {params : Arguments} {body : List Stmt} {scope : Scope} {dvs : List V} {kws : List (Str × V)} {f : Addr} {fd : FuncData} {N ps : List Str} {sp : Sp}
    (F : FunD K x qual params body scope dvs kws f fd) (S : FnScope N ps scope) (len : ∀ vs H Q E, sp vs H Q E → vs.length = ps.length)
    (hbody : ∀ (cdv : Value) (A : Around) (outer : List Env) (s : Shared) (H : Hp) (vs : List V) (Q : VK) (E : XK), Room k (A.deeper (envOfC qual scope s.heap.objs.size f cdv)) → (A.deeper (envOfC qual scope s.heap.objs.size f cdv)).guards = some [] → sp vs H Q E →
      ∃ t, PSs (cxOf CX P w K mg base N qual scope f cdv A outer s H E) body t ∧ t { nx := fun _ H' => Q .non H', rt := Q } (start N vs) H) : FnG P w K mg base CX (k + 1) f fd ps sp := by
  obtain ⟨oc, od, dV, kV, doc, pm, an, cdv, ct, osl, rfl, lk, hcd, _, _⟩ := F.ex
  refine ⟨len, fun A outer s H args us vs Q E hr hgd en hbd rel hsp => ?_⟩
  have hlen := len _ _ _ _ hsp
  have kin : K.In s.heap := en.mod.kin.keeps fun b o e => (en.bs b o e).1
  have nolim : s.heap.NoLimit := en.mod.nolimit.keeps fun b o e => (en.bs b o e).1
  have kinds : ∀ y ∈ ps.zip us, scope.names.lookup y.1 = some .local ∨ (scope.names.lookup y.1 = some .cell ∧ ((cellsFrom (s.heap.objs.size + 1) scope.names []).lookup y.1).isSome = true) := by
    intro ⟨n, v⟩ hy
    rcases S.par n (List.of_mem_zip hy).1 with z | z
    · exact .inl z
    · exact .inr ⟨z, PySem.W.cellsFrom_some _ _ _ (.inl z)⟩
  refine codeAny_call_function hr.depth (kin _ _ lk) rfl S.co S.gen rfl (PySem.W.codeRec_of kin hcd) (hbd _ _ _ _ ?_)
  refine wpAny_newFunctionEnv_cells S.kind kinds fun env henv s1 ext => ?_
  subst henv
  refine ⟨nolim.keeps ext.toInCall.keep, codeAny_func ?_⟩
  obtain ⟨t, ht, hq⟩ := hbody cdv A outer s H vs Q E (hr.deeper _) (deeper_guards hgd) hsp
  have inv0 := inv_start (CX := CX) (E := E) S hr.hd en hlen rel ext
  refine wpAny_mono (ht.run [] s1 (start N vs) H _ inv0 hq) (fun fl s' hs => ?_) fun e s' hs => hs
  cases fl with
  | ret u =>
    obtain ⟨v, σ', H', J, rv, q⟩ := hs
    exact ⟨v, H', J.os, J.bare, J.base, J.hok, rv, q⟩
  | next =>
    obtain ⟨σ', H', J, q⟩ := hs
    exact ⟨V.non, H', J.os, J.bare, J.base, J.hok, rfl, q⟩
  | brk => exact (hs.choose_spec.choose_spec.2 : False).elim
  | cont => exact (hs.choose_spec.choose_spec.2 : False).elim
section
variable {X : Cx} {CX : CXT} {k : Nat} {f : Addr} {fd : FuncData} {ps : List Str} {sp : Sp} {ds : List Value} {dvs : List V} {E : L2.St → XK}
/-- the callee runs -/
theorem runG {pins : List (Addr × Obj)} {σ : L2.St} {H : Hp} {s : Shared} {Q : VK} {us : List Value} {vs : List V} (F : FnG X.prog X.w X.K X.mg X.base CX k f fd ps sp) (hr : Room k X.A) (hgd : X.A.guards = some []) (hb : Binds X.K fd ps ds) (hd : Vals dvs ds) (hx : PassesAt CX X σ (E σ))
    (I : Inv X pins σ H s) (r : Vals vs us) (h : sp (vs ++ dvs) H Q (E σ)) : wpAny (model X.prog X.w) X.A (call (.ref f) us) (EP X pins σ Q) X.xe s := by
  have rr : Vals (vs ++ dvs) (us ++ ds) := r.append hd
  have ll : (us ++ ds).length = ps.length := rr.length ▸ F.len _ _ _ _ h
  refine wpAny_call (codeAny_mono (F.run X.A X.stack s H ⟨us, []⟩ (us ++ ds) (vs ++ dvs) Q (E σ) hr hgd I.env0 (hb s us I.kIn ll) rr h) ?_)
  intro res s' hq
  cases res with
  | error e => exact hx pins H s e s' I hq
  | ok fl =>
    cases fl <;> first | exact I.after hq | exact False.elim hq
theorem pe_callG {x : Str} {p pos : Pos} {e : Expr} {es : List Expr} {t : TA} (F : FnG X.prog X.w X.K X.mg X.base CX k f fd ps sp) (hr : Room k X.A) (hgd : X.A.guards = some []) (hg : Gl X x) (hm : X.mg x = some (.ref f)) (hk : PySem.W.keepIn X.K (.ref f) = true) (hb : Binds X.K fd ps ds) (hd : Vals dvs ds) (hx : ∀ σ, PassesAt CX X σ (E σ))
    (ha : PA X (e :: es) t) (hdb : (x == ("__debug__" : Str)) = false) (he : starEach (e :: es) X.env = (false, eval e X.env) :: starEach es X.env) (hpl : (backTo pos (starEach es X.env)).any (·.1) = false) :
    PE X (.Call (.Name x p) (e :: es) [] pos) (tCallSD sp dvs E t) := by
  refine ⟨fun pins s σ H Q I h => wpAny_Call_Name_kw (ld_glob I hg hm ?_ hdb)⟩
  refine PySem.W.callWith_K (h₀ := X.base) I.ok.mod.kin hk (thn (ha.run pos pins s σ H _ I h) fun us s1 z => ?_) he hpl
  obtain ⟨vs, H1, I1, r, q⟩ := z
  exact ⟨I1.kIn, runG F hr hgd hb hd (hx σ) I1 r q⟩
end
/-- the law's call, from the promise -/
theorem lawG {P : Program} {w : World} {K : PySem.W.Frag} {mg mb : Str → Option Value} {CX : CXT} {k : Nat} {fa a : Addr} {fd : FuncData} {x : Str} {sp : Sp} {t : Shared} {vs : List Value} {ns : List Int}
    (KX : K.In t.heap) (hns : t.heap.Ns mainGlobals mg) (hb : t.heap.Ns builtinsNs mb) (hbb : ∀ x : Str, x ≠ "__name__" → mb x = bootBuiltins x) (hlim : t.heap.NoLimit) (hg : t.gens = #[])
    (ha : t.heap.get? a = some { cls := .type "list", data := .seq vs.toArray }) (hi : IntsAre vs ns) (hl : ns.length ≤ sizeLine) (hr : Room k callerA)
    (F : ∀ base : Heap, K.In base → base.Ns mainGlobals mg → FnG P w K mg base CX k fa fd [x] sp) (hbind : ∀ (s : Shared) (u : Value), BindsTo s fd ⟨[u], []⟩ [(x, u)])
    (hsp : ∀ H : Hp, Only H → SqL K H a (ns.map V.int) → sp [.ref a] H (fun v _ => v = .bl true) fun _ _ _ => False)
    (hCX : ∀ H e s', CX [] H t (fun _ _ _ => False) e s' → False) :
    codeAny (model P w) callerA (.call (.ref fa) ⟨[.ref a], []⟩) (fun r s' => r = .ok (.ret (.bool true)) ∧ OldK t.heap s'.heap ∧ s'.os = t.os ∧ AllBare s'.gens) t := by
  have go : ∀ H : Hp, Only H → SqL K H a (ns.map V.int) → HOk P w H t.heap → (∀ b, H b ≠ none → b = a) → (H a ≠ none → K.lookup a = none) →
      codeAny (model P w) callerA (.call (.ref fa) ⟨[.ref a], []⟩) (fun r s' => r = .ok (.ret (.bool true)) ∧ OldK t.heap s'.heap ∧ s'.os = t.os ∧ AllBare s'.gens) t := fun H hO hS hok hA hK => by
    have only : ∀ {b : Addr}, H b ≠ none → b = a := fun {b} h => hA b h
    have keep1 : ∀ {b : Addr} {o : Obj}, t.heap.get? b = some o → H b = none → (hidT t.heap H).get? b = some o := hidT_get
    have noDict : ∀ {b : Addr} {o : Obj} {es : Array DictEntry} {ep : Nat}, t.heap.get? b = some o → o.data = .dict es ep → H b = none := fun {b o es ep} e d => by
      by_cases q : H b = none
      · exact q
      · have := only q
        subst this
        rw [ha] at e
        cases e
        cases d
    have ns1 : ∀ {b : Addr} {m : Str → Option Value}, t.heap.Ns b m → (hidT t.heap H).Ns b m := fun {b m} z => by
      obtain ⟨o, es, ep, e, d, r⟩ := z
      exact ⟨o, es, ep, keep1 e (noDict e d), d, r⟩
    have kin1 : K.In (hidT t.heap H) := fun b o e => keep1 (KX b o e) (by
      by_cases q : H b = none
      · exact q
      · have := only q
        subst this
        rw [hK q] at e
        cases e)
    have md : Mod K mg (hidT t.heap H) := ⟨kin1, ns1 hns, ⟨mb, ns1 hb, hbb⟩, by
      obtain ⟨mc, h1, h2⟩ := hlim
      exact ⟨mc, ns1 h1, h2⟩⟩
    have en : Env0 P w K mg (hidT t.heap H) callerA [] t H := ⟨rfl, md, fun b o e => of_hidT e, Nat.le_of_eq (hidT_size _ _), trivial, fun b hb => absurd (show b ∈ ([] : List Addr) from hb) (by simp), hok, .of_eq hg⟩
    refine codeAny_mono ((F _ kin1 (ns1 hns)).run callerA [] t H ⟨[.ref a], []⟩ [.ref a] [.ref a] _ _ hr rfl en (hbind t (.ref a)) (.cons rfl .nil) (hsp H hO hS)) ?_
    intro r s' h
    cases r with
    | error e => exact (hCX H e s' h).elim
    | ok fl =>
      cases fl <;> try exact False.elim h
      rename_i u
      obtain ⟨v, H2, hos, bare, un, hok2, rr, q⟩ := h
      have q1 : v = .bl true := q
      subst q1
      have q2 : u = Value.bool true := rr
      subst q2
      refine ⟨rfl, OldK.of_keep fun b o e => ?_, hos, bare⟩
      by_cases q : H b = none
      · exact un.keep b o e q (fun z => absurd (show b ∈ ([] : List Addr) from z) (by simp)) (by simp)
      · rcases hO b with z | ⟨ob, xs, z⟩
        · exact absurd z q
        · obtain ⟨e1, _⟩ := hok b _ z
          obtain ⟨e2, _⟩ := hok2 b _ (un.frzs b ob _ z)
          rw [e] at e1
          cases e1
          exact e2
  have lenV := hi.length
  have rv := vals_ints hi
  cases hk : K.lookup a with
  | some o =>
    have e := KX a o hk
    rw [ha] at e
    cases e
    refine go (fun _ => none) (fun _ => .inl rfl) (.inr ⟨_, vs.toArray, _, hk, rfl, rfl, rfl, ?_, by simpa using rv⟩) ?_ (fun b z => absurd rfl z) fun z => absurd rfl z
    · rw [List.size_toArray, lenV]; exact hl
    · intro b u z
      cases (show (none : Option HO) = some u from z)
  | none =>
    let ob : Obj := { cls := .type "list", data := .seq vs.toArray }
    refine go (fun b => if b = a then some (.frz ob (.lst (ns.map V.int))) else none) (fun b => ?_) (.inl (.inr ⟨ob, if_pos rfl⟩)) (fun b u z => ?_) (fun b z => ?_) fun _ => hk
    · by_cases q : b = a
      · exact .inr ⟨_, _, if_pos q⟩
      · exact .inl (if_neg q)
    · by_cases q : b = a
      · dsimp only at z
        rw [if_pos q] at z
        cases z
        subst q
        exact ⟨ha, by rw [List.length_map]; exact hl, vs, _, rv, ha⟩
      · dsimp only at z
        rw [if_neg q] at z
        cases z
    · by_cases q : b = a
      · exact q
      · exact absurd (if_neg q) z
theorem walkG {l : PySem.W.OpenLaw} {n k : Nat} {q : Program} {loose : List Str} {XP : (Str → Option Value) → Heap → Prop} {YP : World → Heap → Prop} {d : DefRec} {CX : CXT} {x : Str}
    (hn : l.most = some n) (hn2 : n ≤ sizeLine) (hdf : d.params.defaults = []) (hr : Room k callerA)
    (F : ∀ (w : World) (mg : Str → Option Value) (fa : Addr) (h : Heap), YP w h → h.Ns mainGlobals mg → mg d.name = some (.ref fa) →
      ∃ (K : PySem.W.Frag) (fd : FuncData) (sp : Sp), K.In h ∧ (∀ (s : Shared) (u : Value), BindsTo s fd ⟨[u], []⟩ [(x, u)]) ∧
        (∀ (H : Hp) (a : Addr) (ns : List Int), ns.length ≤ n → Only H → SqL K H a (ns.map V.int) → sp [.ref a] H (fun v _ => v = .bl true) fun _ _ _ => False) ∧
        ∀ base : Heap, K.In base → base.Ns mainGlobals mg → FnG l.prog w K mg base CX k fa fd [x] sp)
    (hCX : ∀ (H : Hp) (s : Shared) (e : Value) (s' : Shared), CX [] H s (fun _ _ _ => False) e s' → False) :
    PySem.W.WalkO q loose XP YP l.row.toRowW d [] (fun f vs => PySem.call f vs) := by
  refine Att.attach_call hn hdf ?_
  intro w s0 s1 mg mb fa o pm cd doc a vs ns G Y ho hd hcd hmg hobj hints hlen hg
  obtain ⟨K, fd, sp, KX, hb, hsp, hF⟩ := F w mg fa _ Y G.T.g hmg
  exact lawG KX G.T.g G.T.b G.T.builtins G.T.nolimit hg hobj hints (Nat.le_trans hlen hn2) hr hF hb (fun H hO hS => hsp H a ns hlen hO hS) fun H e s' => hCX H s1 e s'
end MP

end
-- MP1
section
/-! MP1: the small language and its evaluator. -/
namespace MP
open PySem L2

/-- an exception: its class, its fields -/
structure Xn where
  cls : Str
  ns : List Str := []
  vs : List D := []
/-- what a def's call comes to: its value and the new contents of its in-out parameters -/
inductive FR where
  | ok (o : Ou) (ios : List D) | exn (x : Xn) (ios : List D) | stuck
structure Fn where
  io : List Bool
  F : List D → FR
inductive Rs (α : Type) where
  | ok (a : α) (Γ : List Slot) | exn (x : Xn) (Γ : List Slot) | stuck
def Rs.bind {α β : Type} (r : Rs α) (f : α → List Slot → Rs β) : Rs β := match r with
  | .ok a Γ => f a Γ
  | .exn x Γ => .exn x Γ
  | .stuck => .stuck
def Rs.mapG {α : Type} (r : Rs α) (f : List Slot → List Slot) : Rs α := match r with
  | .ok a Γ => .ok a (f Γ)
  | .exn x Γ => .exn x (f Γ)
  | .stuck => .stuck
def Rs.nox {α : Type} (r : Rs α) : Rs α := match r with
  | .exn _ _ => .stuck
  | r => r
/-- a target: a name's slot; a tuple of targets -/
inductive Tg where
  | nm (i : Nat) | nil | cons (a r : Tg)
mutual
inductive Tm where
  | var (i : Nat)
  | con (d : D)
  | prim (f : List D → Option Ou) (as : Ta)
  | mk (f : List D → Option Ou) (as : Ta)
  | call (f : Fn) (as : Ta)
  | and (a b : Tm) | or (a b : Tm) | not (a : Tm)
  | ifx (c a b : Tm)
  | chn (f g : List D → Option Ou) (a b c : Tm)
  | lc (g : List D → Option (List D)) (as : Ta) (tg : Tg) (own : List Nat) (c e : Tm)
  | mth (k : D → Bool) (f : D → List D → Option (D × Ou)) (i : Nat) (as : Ta)
  | ess (t : Tm)
  | meth (sel : D → Option Fn) (o : Tm) (as : Ta)
  | rcv (k : D → Bool) (f : List D → Option Ou) (o : Tm) (as : Ta)
  | dc (g : List D → Option (List D)) (as : Ta) (tg : Tg) (own : List Nat) (c k e : Tm)
inductive Ta where
  | nil | cons (t : Tm) (r : Ta)
end
mutual
inductive Sm where
  | set (i : Nat) (t : Tm)
  | unp (tg : Tg) (t : Tm)
  | par (is : List Nat) (as : Ta)
  | sub (f : D → D → D → Option D) (i : Nat) (k t : Tm)
  | fld (cs : List Str) (f : Str) (i : Nat) (t : Tm)
  | drop (t : Tm)
  | ret (t : Tm)
  | ite (c : Tm) (a b : Ss)
  | for (g : List D → Option (List D)) (as : Ta) (tg : Tg) (b : Ss)
  | whl (c : Tm) (b : Ss)
  | brk | cnt | pas | nev
inductive Ss where
  | nil | cons (s : Sm) (r : Ss)
end
def LIM : Nat := 10000000
theorem lim_le {n : Nat} (h : n ≤ LIM) : n ≤ sizeLine := Nat.le_trans h (by decide +kernel)
theorem lim_lt {n : Nat} (h : n < LIM) : n < sizeLine := Nat.lt_of_lt_of_le h (by decide +kernel)

/-- the datum of a given thing that is kept somewhere: a changeable one is changeable no more -/
def esc (l : Vl) (Γ : List Slot) : Rs D := match l with
  | .dat d => .ok d Γ
  | .new d => .ok d Γ
  | .ref i => match Γ[i]? with
    | some (.dat d) => .ok d Γ
    | some (.mt _ d) => .ok d (Γ.set i (.dat d))
    | _ => .stuck
def escA : List Vl → List Slot → Rs (List D)
  | [], Γ => .ok [] Γ
  | l :: ls, Γ => (esc l Γ).bind fun d Γ1 => (escA ls Γ1).bind fun ds Γ2 => .ok (d :: ds) Γ2
mutual
/-- a datum goes to a target -/
def bnd : Tg → D → List Slot → Option (List Slot)
  | .nm i, d, Γ => if i < Γ.length then some (Γ.set i (.dat d)) else none
  | .nil, .tup [], Γ => some Γ
  | .cons a r, .tup (d :: ds), Γ => match bnd a d Γ with
    | some Γ1 => bnd r (.tup ds) Γ1
    | none => none
  | _, _, _ => none
end
def wipeG (own : List Nat) (Γ : List Slot) : List Slot := match own with
  | [] => Γ
  | v :: vs => (wipeG vs Γ).set v .no
/-- the changeable slots among given things -/
def locks (Γ : List Slot) : List Vl → List Nat
  | [] => []
  | .ref i :: ls => match Γ[i]? with
    | some (.mt _ _) => i :: locks Γ ls
    | _ => locks Γ ls
  | _ :: ls => locks Γ ls
def lock1 (i : Nat) (Γ : List Slot) : List Slot := match Γ[i]? with
  | some (.mt b d) => Γ.set i (.lck b d)
  | _ => Γ
def unlock1 (i : Nat) (Γ : List Slot) : List Slot := match Γ[i]? with
  | some (.lck b d) => Γ.set i (.mt b d)
  | _ => Γ
def lockA : List Nat → List Slot → List Slot
  | [], Γ => Γ
  | i :: r, Γ => lockA r (lock1 i Γ)
def unlockA : List Nat → List Slot → List Slot
  | [], Γ => Γ
  | i :: r, Γ => unlockA r (unlock1 i Γ)
def noMut (own : List Nat) (Γ : List Slot) : Bool := own.all fun i => match Γ[i]? with
  | some (.mt _ _) => false
  | some (.lck _ _) => false
  | _ => true
/-- the slots of a comprehension's own names as they were -/
def keepG (own : List Nat) (Γ0 Γ : List Slot) : List Slot := match own with
  | [] => Γ
  | v :: vs => (keepG vs Γ0 Γ).set v (Γ0[v]?.getD .no)
def lcLoop (ec ee : List Slot → Rs Vl) (tg : Tg) (own : List Nat) : List D → List D → List Slot → Rs (List D)
  | [], acc, Γ => .ok acc Γ
  | x :: xs, acc, Γ => match bnd tg x Γ with
    | none => .stuck
    | some Γ1 => (ec Γ1).nox.bind fun b Γ2 => match b with
      | .dat (.bl true) => (ee Γ2).nox.bind fun l Γ3 => (esc l Γ3).bind fun d Γ4 => lcLoop ec ee tg own xs (acc ++ [d]) (wipeG own Γ4)
      | .dat (.bl false) => lcLoop ec ee tg own xs acc (wipeG own Γ2)
      | _ => .stuck
/-- a key of a dict: a number, a text; a tuple of these -/
def keyB : D → Bool
  | .int _ => true
  | .str _ => true
  | _ => false
def putD (ks vs : List D) (k v : D) (eq : D → D → Bool) : List D × List D :=
  if ks.any (fun x => eq x k) = true then (ks, List.zipWith (fun x y => if eq x k = true then v else y) ks vs) else (ks ++ [k], vs ++ [v])
def scal : D → Bool
  | .non => true
  | .bl _ => true
  | .int _ => true
  | .str _ => true
  | _ => false
def flat : D → Bool
  | .lst xs => xs.all scal
  | d => scal d
def Ou.scal : Ou → Bool
  | .dat d => MP.scal d
  | _ => false
/-- in-out arguments: slots of changeable things, all different -/
def ioIx : List Bool → List Vl → Option (List Nat)
  | [], [] => some []
  | true :: bs, .ref i :: ls => (ioIx bs ls).map (i :: ·)
  | false :: bs, _ :: ls => ioIx bs ls
  | _, _ => none
def isMt (Γ : List Slot) (i : Nat) : Bool := match Γ[i]? with
  | some (.mt _ _) => true
  | _ => false
/-- changeable things that are lent -/
def lent (Γ : List Slot) : List Bool → List Vl → List Nat
  | false :: bs, .ref i :: ls => match Γ[i]? with
    | some (.mt _ _) => i :: lent Γ bs ls
    | some (.lck _ _) => i :: lent Γ bs ls
    | _ => lent Γ bs ls
  | _ :: bs, _ :: ls => lent Γ bs ls
  | _, _ => []
def put1 (Γ : List Slot) (i : Nat) (d : D) : List Slot := match Γ[i]? with
  | some (.mt b _) => Γ.set i (.mt b d)
  | _ => Γ
def putA (Γ : List Slot) : List Nat → List D → List Slot
  | i :: is, d :: ds => putA (put1 Γ i d) is ds
  | _, _ => Γ
def freeze1 (Γ : List Slot) (i : Nat) : List Slot := match Γ[i]? with
  | some (.mt _ d) => Γ.set i (.dat d)
  | _ => Γ
def freezeA (Γ : List Slot) : List Nat → List Slot
  | [] => Γ
  | i :: is => freezeA (freeze1 Γ i) is
def noDct (Γ : List Slot) (i : Nat) : Bool := match Γ[i]? with
  | some (.mt _ (.dct _ _)) => false
  | some (.lck _ (.dct _ _)) => false
  | _ => true
def evCall (f : Fn) (ls : List Vl) (Γ : List Slot) : Rs Vl := match resA Γ ls, ioIx f.io ls with
  | some ds, some is =>
    if is.Nodup ∧ is.all (isMt Γ) = true ∧ (lent Γ f.io ls).all (fun i => !is.contains i) = true then
      match f.F ds with
      | .ok o ios => if ios.length = is.length then
          (if (lent Γ f.io ls).isEmpty = true ∨ (o.scal = true ∧ ios.all flat = true ∧ (lent Γ f.io ls).all (noDct Γ) = true) then .ok o.vl (putA Γ is ios)
           else if (lent Γ f.io ls).all (isMt Γ) = true then .ok o.vl (freezeA (putA Γ is ios) (lent Γ f.io ls)) else .stuck) else .stuck
      | .exn x ios => if ios.length = is.length ∧ (lent Γ f.io ls).isEmpty = true then .exn x (putA Γ is ios) else .stuck
      | .stuck => .stuck
    else .stuck
  | _, _ => .stuck
/-- keys: Key or a list of Key; what a dict holds has keys of one kind -/
def k1 : D → Option Key
  | .int i => some (.inl i)
  | .str x => some (.inr x)
  | _ => none
def k1s : List D → Option (List Key)
  | [] => some []
  | d :: ds => match k1 d, k1s ds with
    | some k, some ks => some (k :: ks)
    | _, _ => none
def dKey : D → Option (Key ⊕ List Key)
  | .int i => some (.inl (.inl i))
  | .str x => some (.inl (.inr x))
  | .tup xs => (k1s xs).map .inr
  | _ => none
def kEq (a b : D) : Bool := match dKey a, dKey b with
  | some x, some y => decide (x = y)
  | _, _ => false
def kK : D → Bool
  | .int _ => true
  | .str _ => true
  | _ => false
def kT (d : D) : Bool := !kK d && (dKey d).isSome
/-- d[k] = v -/
def stD : D → D → D → Option D
  | .dct ks vs, k, v => if ks.length < LIM ∧ ((ks.all kK && kK k) = true ∨ (ks.all kT && kT k) = true) then some (.dct (putD ks vs k v kEq).1 (putD ks vs k v kEq).2) else none
  | _, _, _ => none
def dcLoop (ec ek ee : List Slot → Rs Vl) (tg : Tg) (own : List Nat) : List D → List D × List D → List Slot → Rs (List D × List D)
  | [], acc, Γ => .ok acc Γ
  | x :: xs, acc, Γ => match bnd tg x Γ with
    | none => .stuck
    | some Γ1 => (ec Γ1).nox.bind fun b Γ2 => match b with
      | .dat (.bl true) => (ek Γ2).nox.bind fun lk Γ3 => match lk with
        | .dat dk => if kK dk = true then (ee Γ3).nox.bind fun l Γ5 => (esc l Γ5).bind fun d Γ6 => dcLoop ec ek ee tg own xs (putD acc.1 acc.2 dk d kEq) (wipeG own Γ6) else .stuck
        | _ => .stuck
      | .dat (.bl false) => dcLoop ec ek ee tg own xs acc (wipeG own Γ2)
      | _ => .stuck
mutual
def ev : Tm → List Slot → Rs Vl
  | .var i, Γ => match Γ[i]? with
    | some (.dat d) => .ok (.dat d) Γ
    | some (.mt _ _) => .ok (.ref i) Γ
    | some (.lck _ _) => .ok (.ref i) Γ
    | _ => .stuck
  | .con d, Γ => .ok (.dat d) Γ
  | .prim f as, Γ => (evA as Γ).bind fun ls Γ1 => match resA Γ1 ls with
    | some ds => (match f ds with
      | some o => .ok o.vl Γ1
      | none => .stuck)
    | none => .stuck
  | .mk f as, Γ => (evA as Γ).bind fun ls Γ1 => (escA ls Γ1).bind fun ds Γ2 => match f ds with
    | some o => .ok o.vl Γ2
    | none => .stuck
  | .call f as, Γ => (evA as Γ).bind fun ls Γ1 => evCall f ls Γ1
  | .and a b, Γ => (ev a Γ).bind fun l Γ1 => match l with
    | .dat (.bl true) => ev b Γ1
    | .dat (.bl false) => .ok l Γ1
    | _ => .stuck
  | .or a b, Γ => (ev a Γ).bind fun l Γ1 => match l with
    | .dat (.bl true) => .ok l Γ1
    | .dat (.bl false) => ev b Γ1
    | _ => .stuck
  | .not a, Γ => (ev a Γ).bind fun l Γ1 => match l with
    | .dat (.bl b) => .ok (.dat (.bl (!b))) Γ1
    | _ => .stuck
  | .ifx c a b, Γ => (ev c Γ).bind fun l Γ1 => match l with
    | .dat (.bl true) => ev a Γ1
    | .dat (.bl false) => ev b Γ1
    | _ => .stuck
  | .chn f g a b c, Γ => (ev a Γ).bind fun la Γ1 => (ev b Γ1).bind fun lb Γ2 => match resA Γ2 [la, lb] with
    | some ds => (match f ds with
      | some (.dat (.bl false)) => .ok (.dat (.bl false)) Γ2
      | some (.dat (.bl true)) => (ev c Γ2).bind fun lc Γ3 => (match resA Γ3 [lb, lc] with
        | some es => (match g es with
          | some o => .ok o.vl Γ3
          | none => .stuck)
        | none => .stuck)
      | _ => .stuck)
    | none => .stuck
  | .lc g as tg own c e, Γ => (evA as Γ).bind fun ls Γ1 => match resA Γ1 ls with
    | some ds => (match g ds with
      | some xs => if xs.length ≤ LIM ∧ noMut own Γ1 = true then
          (lcLoop (ev c) (ev e) tg own xs [] (wipeG own (lockA (locks Γ1 ls) Γ1))).bind fun acc Γ2 => .ok (.new (.lst acc)) (keepG own Γ1 (unlockA (locks Γ1 ls) Γ2))
        else .stuck
      | none => .stuck)
    | none => .stuck
  | .mth k f i as, Γ => match Γ[i]? with
    | some (.mt _ d0) => if k d0 = true then (evA as Γ).bind fun ls Γ1 => (escA ls Γ1).bind fun ds Γ2 => (match Γ2[i]? with
      | some (.mt b d) => (match f d ds with
        | some (d', o) => .ok o.vl (Γ2.set i (.mt b d'))
        | none => .stuck)
      | _ => .stuck) else .stuck
    | _ => .stuck
  | .ess t, Γ => (ev t Γ).bind fun l Γ1 => (esc l Γ1).bind fun d Γ2 => .ok (.dat d) Γ2
  | .meth sel o as, Γ => (ev o Γ).bind fun l Γ1 => match (res Γ1 l).bind sel with
    | some f => (evA as Γ1).bind fun ls Γ2 => evCall f (l :: ls) Γ2
    | none => .stuck
  | .rcv k f o as, Γ => (ev o Γ).bind fun l Γ1 => match res Γ1 l with
    | some d => if k d = true then (evA as Γ1).bind fun ls Γ2 => (match resA Γ2 (l :: ls) with
      | some ds => (match f ds with
        | some o => .ok o.vl Γ2
        | none => .stuck)
      | none => .stuck) else .stuck
    | none => .stuck
  | .dc g as tg own c k e, Γ => (evA as Γ).bind fun ls Γ1 => match resA Γ1 ls with
    | some ds => (match g ds with
      | some xs => if xs.length ≤ LIM ∧ noMut own Γ1 = true then
          (dcLoop (ev c) (ev k) (ev e) tg own xs ([], []) (wipeG own (lockA (locks Γ1 ls) Γ1))).bind fun acc Γ2 => .ok (.new (.dct acc.1 acc.2)) (keepG own Γ1 (unlockA (locks Γ1 ls) Γ2))
        else .stuck
      | none => .stuck)
    | none => .stuck
def evA : Ta → List Slot → Rs (List Vl)
  | .nil, Γ => .ok [] Γ
  | .cons t r, Γ => (ev t Γ).bind fun l Γ1 => (evA r Γ1).bind fun ls Γ2 => .ok (l :: ls) Γ2
end
/-- a field is stored -/
def putN (f : Str) (d : D) : List Str → List D → List Str × List D
  | n :: ns, v :: vs => if n = f then (n :: ns, d :: vs) else let r := putN f d ns vs; (n :: r.1, v :: r.2)
  | _, _ => ([f], [d])
inductive Fl where
  | nx | rt (o : Ou) | bk | ct
/-- a value goes to a name -/
def store (i : Nat) (l : Vl) (Γ : List Slot) : Rs Unit := if i < Γ.length then (match l with
  | .new d => .ok () (Γ.set i (.mt true d))
  | l => (esc l Γ).bind fun d Γ1 => .ok () (Γ1.set i (.dat d))) else .stuck
def storeA : List Nat → List Vl → List Slot → Rs Unit
  | [], [], Γ => .ok () Γ
  | _ :: _, .ref _ :: _, _ => .stuck
  | i :: is, l :: ls, Γ => (store i l Γ).bind fun _ Γ1 => storeA is ls Γ1
  | _, _, _ => .stuck
def retV (l : Vl) (Γ : List Slot) : Rs Fl := match l with
  | .dat d => .ok (.rt (.dat d)) Γ
  | .new d => .ok (.rt (.new d)) Γ
  | .ref i => match Γ[i]? with
    | some (.dat d) => .ok (.rt (.dat d)) Γ
    | some (.mt true d) => .ok (.rt (.new d)) (Γ.set i .no)
    | _ => .stuck
def forLoop (eb : List Slot → Rs Fl) (tg : Tg) : List D → List Slot → Rs Fl
  | [], Γ => .ok .nx Γ
  | x :: xs, Γ => match bnd tg x Γ with
    | none => .stuck
    | some Γ1 => (eb Γ1).bind fun f Γ2 => match f with
      | .nx => forLoop eb tg xs Γ2
      | .ct => forLoop eb tg xs Γ2
      | .bk => .ok .nx Γ2
      | .rt o => .ok (.rt o) Γ2
def whlLoop (ec : List Slot → Rs Vl) (eb : List Slot → Rs Fl) : Nat → List Slot → Rs Fl
  | 0, _ => .stuck
  | n + 1, Γ => (ec Γ).bind fun b Γ1 => match b with
    | .dat (.bl false) => .ok .nx Γ1
    | .dat (.bl true) => (eb Γ1).bind fun f Γ2 => (match f with
      | .nx => whlLoop ec eb n Γ2
      | .ct => whlLoop ec eb n Γ2
      | .bk => .ok .nx Γ2
      | .rt o => .ok (.rt o) Γ2)
    | _ => .stuck
mutual
def ex (n : Nat) : Sm → List Slot → Rs Fl
  | .set i t, Γ => (ev t Γ).bind fun l Γ1 => (store i l Γ1).bind fun _ Γ2 => .ok .nx Γ2
  | .unp tg t, Γ => (ev t Γ).bind fun l Γ1 => match res Γ1 l with
    | some (.tup ds) => (match bnd tg (.tup ds) Γ1 with
      | some Γ2 => .ok .nx Γ2
      | none => .stuck)
    | _ => .stuck
  | .par is as, Γ => (evA as Γ).bind fun ls Γ1 => (storeA is ls Γ1).bind fun _ Γ2 => .ok .nx Γ2
  | .sub f i k t, Γ => if isMt Γ i = true then (ev t Γ).bind fun l Γ1 => (ev k Γ1).bind fun lk Γ2 => (escA [l, lk] Γ2).bind fun ds Γ3 => (match ds, Γ3[i]? with
    | [d, dk], some (.mt b o) => (match f o dk d with
      | some o' => .ok .nx (Γ3.set i (.mt b o'))
      | none => .stuck)
    | _, _ => .stuck) else .stuck
  | .fld cs f i t, Γ => if isMt Γ i = true then (ev t Γ).bind fun l Γ1 => (esc l Γ1).bind fun d Γ2 => (match Γ2[i]? with
    | some (.mt b (.obj c ns vs)) => if ns.length < 900 ∧ cs.contains c = true then .ok .nx (Γ2.set i (.mt b (.obj c (putN f d ns vs).1 (putN f d ns vs).2))) else .stuck
    | _ => .stuck) else .stuck
  | .drop t, Γ => (ev t Γ).bind fun _ Γ1 => .ok .nx Γ1
  | .ret t, Γ => (ev t Γ).bind fun l Γ1 => retV l Γ1
  | .ite c a b, Γ => (ev c Γ).bind fun l Γ1 => match l with
    | .dat (.bl true) => exs n a Γ1
    | .dat (.bl false) => exs n b Γ1
    | _ => .stuck
  | .for g as tg b, Γ => (evA as Γ).bind fun ls Γ1 => match resA Γ1 ls with
    | some ds => (match g ds with
      | some xs => (forLoop (exs n b) tg xs (lockA (locks Γ1 ls) Γ1)).mapG (unlockA (locks Γ1 ls))
      | none => .stuck)
    | none => .stuck
  | .whl c b, Γ => whlLoop (ev c) (exs n b) n Γ
  | .brk, Γ => .ok .bk Γ
  | .cnt, Γ => .ok .ct Γ
  | .pas, Γ => .ok .nx Γ
  | .nev, _ => .stuck
def exs (n : Nat) : Ss → List Slot → Rs Fl
  | .nil, Γ => .ok .nx Γ
  | .cons s r, Γ => (ex n s Γ).bind fun f Γ1 => match f with
    | .nx => exs n r Γ1
    | f => .ok f Γ1
end
def initG : List Bool → List D → List Slot
  | true :: bs, d :: ds => .mt false d :: initG bs ds
  | false :: bs, d :: ds => .dat d :: initG bs ds
  | _, _ => []
def ioOut : List Bool → List Slot → Option (List D)
  | true :: bs, .mt false d :: r => (ioOut bs r).map (d :: ·)
  | true :: _, _ => none
  | false :: bs, _ :: r => ioOut bs r
  | false :: _, [] => none
  | [], _ => some []
/-- the def's own function: io its in-out parameters, m further slots, n the bound of its whiles' turns -/
def runF (io : List Bool) (m n : Nat) (body : Ss) (ds : List D) : FR :=
  if ds.length = io.length then (match exs n body (initG io ds ++ List.replicate m .no) with
  | .ok f Γ => (match ioOut io Γ with
    | some ios => (match f with
      | .nx => .ok (.dat .non) ios
      | .rt o => .ok o ios
      | _ => .stuck)
    | none => .stuck)
  | .exn x Γ => (match ioOut io Γ with
    | some ios => .exn x ios
    | none => .stuck)
  | .stuck => .stuck) else .stuck
end MP

end
-- MP2
section
/-! MP2: what the evaluator's results mean; the readings of expressions. -/
namespace MP
open PySem L2

/-- an exception's class and dict -/
def XRel (K : PySem.W.Frag) (W H : Hp) (x : Xn) (cls : Value) (d : Option Addr) : Prop :=
  cls = .ref (He.ga K x.cls) ∧ ((x.ns = [] ∧ d = none) ∨ ∃ dd fs, d = some dd ∧ H dd = some (.xd fs) ∧ fs.map (·.1) = x.ns ∧ DrA K W (fs.map (·.2)) x.vs)
/-- behind a part that leaves the frame's slots -/
def PoR (K : PySem.W.Frag) (Wx : WX) {α : Type} (c : Cf) (r : Rs α) (P : α → Cf → Prop) : Prop := match r with
  | .ok a Γ => ∀ W' H', Rel K ⟨c.E, W', Γ, c.σ, H'⟩ → Stp c ⟨c.E, W', Γ, c.σ, H'⟩ → P a ⟨c.E, W', Γ, c.σ, H'⟩
  | .exn x Γ => ∀ cls d W' H', Rel K ⟨c.E, W', Γ, c.σ, H'⟩ → Stp c ⟨c.E, W', Γ, c.σ, H'⟩ → XRel K W' H' x cls d → Wx cls d c.σ H'
  | .stuck => False
section
variable {K : PySem.W.Frag} {Wx : WX} {α β : Type} {c : Cf} {r : Rs α}
theorem PoR.imp {P P' : α → Cf → Prop} (h : PoR K Wx c r P) (i : ∀ a c', Rel K c' → Stp c c' → c'.σ = c.σ → P a c' → P' a c') : PoR K Wx c r P' := by
  cases r with
  | ok a Γ => exact fun W' H' R S => i a _ R S rfl (h W' H' R S)
  | exn x Γ => exact h
  | stuck => exact h
theorem PoR.bind {f : α → List Slot → Rs β} {P : β → Cf → Prop} (h : PoR K Wx c (r.bind f) P) : PoR K Wx c r fun a c1 => PoR K Wx c1 (f a c1.Γ) P := by
  cases r with
  | ok a Γ =>
    intro W' H' R S
    have h' : PoR K Wx c (f a Γ) P := h
    show PoR K Wx ⟨c.E, W', Γ, c.σ, H'⟩ (f a Γ) P
    cases e : f a Γ with
    | ok b Γ2 =>
      rw [e] at h'
      exact fun W2 H2 R2 S2 => h' W2 H2 R2 (S.trans S2)
    | exn x Γ2 =>
      rw [e] at h'
      exact fun cls d W2 H2 R2 S2 => h' cls d W2 H2 R2 (S.trans S2)
    | stuck =>
      rw [e] at h'
      exact h'
  | exn x Γ => exact h
  | stuck => exact h
theorem PoR.bind0 {f : α → List Slot → Rs β} {P : β → Cf → Prop} (h : PoR K Wx c (r.bind f) P) : PoR K Wx c r fun a c1 => PoR K Wx c (f a c1.Γ) P := by
  cases r with
  | ok a Γ => exact fun W' H' R S => h
  | exn x Γ => exact h
  | stuck => exact h
theorem PoR.later {c1 : Cf} {P : α → Cf → Prop} (h : PoR K Wx c r P) (S : Stp c c1) (e : c1.σ = c.σ) : PoR K Wx c1 r P := by
  have eE := S.ent
  cases r with
  | ok a Γ =>
    intro W' H' R' S'
    rw [eE, e] at R' S' ⊢
    exact h W' H' R' (S.trans S')
  | exn x Γ =>
    intro cls d W' H' R' S' X
    rw [eE, e] at R' S'
    rw [e]
    exact h cls d W' H' R' (S.trans S') X
  | stuck => exact h
theorem PoR.at {a : α} {P : α → Cf → Prop} (R : Rel K c) (h : PoR K Wx c (.ok a c.Γ) P) : P a c := h c.W c.H R (Stp.refl c)
end

def den (K : PySem.W.Frag) (Wx : WX) (t : Tm) : TE := fun σ H Q => ∃ E W Γ, Rel K ⟨E, W, Γ, σ, H⟩ ∧ PoR K Wx ⟨E, W, Γ, σ, H⟩ (ev t Γ) fun l c' => ∀ v, VRel K ⟨E, W, Γ, σ, H⟩ c' v l → Q v c'.H
def denA (K : PySem.W.Frag) (Wx : WX) (t : Ta) : TA := fun σ H Q => ∃ E W Γ, Rel K ⟨E, W, Γ, σ, H⟩ ∧ PoR K Wx ⟨E, W, Γ, σ, H⟩ (evA t Γ) fun ls c' => ∀ vs, VRelA K ⟨E, W, Γ, σ, H⟩ c' vs ls → Q vs c'.H
def denT (K : PySem.W.Frag) (Wx : WX) (t : Tm) : TT := fun σ H Q => ∃ E W Γ, Rel K ⟨E, W, Γ, σ, H⟩ ∧ PoR K Wx ⟨E, W, Γ, σ, H⟩ (ev t Γ) fun l c' => ∃ b, l = .dat (.bl b) ∧ Q b c'.H

/-! ### weakenings of the layer's judgements -/
section
variable {X : Cx} {e : Expr}
theorem PE.imp {t t' : TE} (h : PE X e t) (i : ∀ σ H Q, t' σ H Q → t σ H Q) : PE X e t' := ⟨fun pins s σ H Q I w => h.run pins s σ H Q I (i σ H Q w)⟩
theorem PT.imp {t t' : TT} (h : PT X e t) (i : ∀ σ H Q, t' σ H Q → t σ H Q) : PT X e t' := ⟨fun pins s σ H Q I w => h.run pins s σ H Q I (i σ H Q w)⟩
theorem PW.imp {t t' : TT} (h : PW X e t) (i : ∀ σ H Q, t' σ H Q → t σ H Q) : PW X e t' := ⟨fun wh pins s σ H Q I w => h.run wh pins s σ H Q I (i σ H Q w)⟩
theorem PA.imp {es : List Expr} {t t' : TA} (h : PA X es t) (i : ∀ σ H Q, t' σ H Q → t σ H Q) : PA X es t' := ⟨fun pos pins s σ H Q I w => h.run pos pins s σ H Q I (i σ H Q w)⟩
theorem PS.imp {st : Stmt} {t t' : TS} (h : PS X st t) (i : ∀ D σ H, t' D σ H → t D σ H) : PS X st t' := ⟨fun pins s σ H D I w => h.run pins s σ H D I (i D σ H w)⟩
theorem PSs.imp {st : List Stmt} {t t' : TS} (h : PSs X st t) (i : ∀ D σ H, t' D σ H → t D σ H) : PSs X st t' := ⟨fun pins s σ H D I w => h.run pins s σ H D I (i D σ H w)⟩
end

/-! ### the readings -/
section
variable {K : PySem.W.Frag} {Wx : WX} {σ : St} {H : Hp} {Q : VK}
theorem den_var {i : Nat} (h : den K Wx (.var i) σ H Q) : tVar i σ H Q := by
  obtain ⟨E, W, Γ, R, h⟩ := h
  simp only [ev] at h
  cases g : Γ[i]? with
  | none => rw [g] at h; exact h.elim
  | some s =>
    rw [g] at h
    cases s with
    | no => exact h.elim
    | dat d =>
      obtain ⟨v, e1, e2⟩ := R.dat i d g
      exact ⟨v, e1, h.at R v (.dat e2)⟩
    | mt b d =>
      obtain ⟨a, e1, _⟩ := R.mt i b d g
      exact ⟨.ref a, e1, h.at R _ (.ref e1)⟩
    | lck b d =>
      obtain ⟨a, e1, _⟩ := R.lk i b d g
      exact ⟨.ref a, e1, h.at R _ (.ref e1)⟩
theorem den_con {d : D} {v : V} (hv : ∀ W, Dr K W v d) (h : den K Wx (.con d) σ H Q) : tC v σ H Q := by
  obtain ⟨E, W, Γ, R, h⟩ := h
  exact h.at R v (.dat (hv _))
theorem denA_nil {Q : List V → Hp → Prop} (h : denA K Wx .nil σ H Q) : tNil σ H Q := by
  obtain ⟨E, W, Γ, R, h⟩ := h
  exact h.at R [] .nil
theorem denA_cons {t : Tm} {r : Ta} {Q : List V → Hp → Prop} (h : denA K Wx (.cons t r) σ H Q) : tCons (den K Wx t) (denA K Wx r) σ H Q := by
  obtain ⟨E, W, Γ, R, h⟩ := h
  simp only [evA] at h
  refine ⟨E, W, Γ, R, h.bind.imp fun l c1 R1 S1 e1 h1 v V1 => ?_⟩
  obtain ⟨E1, W1, Γ1, σ1, H1⟩ := c1
  cases e1
  refine ⟨E1, W1, Γ1, R1, (PoR.bind h1).imp fun ls c2 R2 S2 e2 h2 vs V2 => ?_⟩
  refine PoR.at R2 h2 _ (.cons (V1.next S2 e2) (V2.back S1.back) fun d d' e m => ?_)
  subst e
  cases V1 with
  | new _ _ _ ha => exact ha.ne (V2.fresh m)
/-- what a built-in asks -/
def rP (K : PySem.W.Frag) (f : List D → Option Ou) (vs : List V) (H : Hp) (Q : VK) : Prop :=
  ∃ W ds o, Le W H ∧ TopA K W H vs ds ∧ f ds = some o ∧ ∀ v W' H', PSt W H W' H' → ORel K H W' H' v o → Q v H'
theorem ORel.vl {H W' H' : Hp} {v : V} {o : Ou} {c0 c c' : Cf} (h : ORel K H W' H' v o) (hH : c.H = H) (h1 : c'.W = W') (h2 : c'.H = H') (hm : c'.ad = c.ad) (R : Rel K c) (s : ∀ a, c.H a = none → c0.H a = none) : VRel K c0 c' v o.vl := by
  subst hH h1 h2
  cases h with
  | dat d => exact .dat d
  | new a b d =>
    refine .new (s _ a) b ?_ d
    rw [hm]
    intro z
    exact (R.ad_ne z).1 a
theorem den_prim {f : List D → Option Ou} {as : Ta} (h : den K Wx (.prim f as) σ H Q) : denA K Wx as σ H fun vs H2 => rP K f vs H2 Q := by
  obtain ⟨E, W, Γ, R, h⟩ := h
  simp only [ev] at h
  refine ⟨E, W, Γ, R, h.bind.imp fun ls c1 R1 S1 e1 h1 vs V1 => ?_⟩
  cases e : resA c1.Γ ls with
  | none => rw [e] at h1; exact h1.elim
  | some ds =>
    rw [e] at h1
    simp only at h1
    cases ef : f ds with
    | none => rw [ef] at h1; exact h1.elim
    | some o =>
      rw [ef] at h1
      refine ⟨c1.W, ds, o, R1.le, R1.topA V1 e, ef, fun v W' H' p q => ?_⟩
      obtain ⟨R2, S2⟩ := R1.pst p
      exact h1 W' H' R2 S2 v (q.vl (c := c1) rfl rfl rfl rfl R1 S1.back)
theorem denT_den {t : Tm} {Q : Bool → Hp → Prop} (h : denT K Wx t σ H Q) : den K Wx t σ H fun v H' => ∃ b, v = .bl b ∧ Q b H' := by
  obtain ⟨E, W, Γ, R, h⟩ := h
  refine ⟨E, W, Γ, R, h.imp fun l c1 R1 S1 e1 h1 v V => ?_⟩
  obtain ⟨b, rfl, q⟩ := h1
  cases V with
  | dat d => cases d; exact ⟨b, rfl, q⟩
theorem denT_and {a b : Tm} {Q : Bool → Hp → Prop} (h : denT K Wx (.and a b) σ H Q) : tAnd (denT K Wx a) (denT K Wx b) σ H Q := by
  obtain ⟨E, W, Γ, R, h⟩ := h
  simp only [ev] at h
  refine ⟨E, W, Γ, R, h.bind.imp fun l c1 R1 S1 e1 h1 => ?_⟩
  obtain ⟨E1, W1, Γ1, σ1, H1⟩ := c1
  cases e1
  split at h1
  · refine ⟨true, rfl, ?_⟩
    dsimp only
    rw [if_pos rfl]
    exact ⟨E1, W1, Γ1, R1, h1⟩
  · refine ⟨false, rfl, ?_⟩
    dsimp only
    rw [if_neg Bool.false_ne_true]
    obtain ⟨b, e, q⟩ := h1.at R1
    cases e
    exact q
  · exact h1.elim
theorem denT_or {a b : Tm} {Q : Bool → Hp → Prop} (h : denT K Wx (.or a b) σ H Q) : tOr (denT K Wx a) (denT K Wx b) σ H Q := by
  obtain ⟨E, W, Γ, R, h⟩ := h
  simp only [ev] at h
  refine ⟨E, W, Γ, R, h.bind.imp fun l c1 R1 S1 e1 h1 => ?_⟩
  obtain ⟨E1, W1, Γ1, σ1, H1⟩ := c1
  cases e1
  split at h1
  · refine ⟨true, rfl, ?_⟩
    dsimp only
    rw [if_pos rfl]
    obtain ⟨b, e, q⟩ := h1.at R1
    cases e
    exact q
  · refine ⟨false, rfl, ?_⟩
    dsimp only
    rw [if_neg Bool.false_ne_true]
    exact ⟨E1, W1, Γ1, R1, h1⟩
  · exact h1.elim
theorem denT_not {a : Tm} {Q : Bool → Hp → Prop} (h : denT K Wx (.not a) σ H Q) : tNot (denT K Wx a) σ H Q := by
  obtain ⟨E, W, Γ, R, h⟩ := h
  simp only [ev] at h
  refine ⟨E, W, Γ, R, h.bind.imp fun l c1 R1 S1 e1 h1 => ?_⟩
  split at h1
  · rename_i b
    obtain ⟨b', e, q⟩ := h1.at R1
    cases e
    exact ⟨b, rfl, q⟩
  · exact h1.elim
theorem den_ifx {c a b : Tm} (h : den K Wx (.ifx c a b) σ H Q) : tIf (denT K Wx c) (den K Wx a) (den K Wx b) σ H Q := by
  obtain ⟨E, W, Γ, R, h⟩ := h
  simp only [ev] at h
  refine ⟨E, W, Γ, R, h.bind.imp fun l c1 R1 S1 e1 h1 => ?_⟩
  obtain ⟨E1, W1, Γ1, σ1, H1⟩ := c1
  cases e1
  have bk : ∀ {r : Rs Vl}, PoR K Wx ⟨E1, W1, Γ1, σ, H1⟩ r (fun l c' => ∀ v, VRel K ⟨E, W, Γ, σ, H⟩ c' v l → Q v c'.H) → PoR K Wx ⟨E1, W1, Γ1, σ, H1⟩ r (fun l c' => ∀ v, VRel K ⟨E1, W1, Γ1, σ, H1⟩ c' v l → Q v c'.H) := fun {r} z => z.imp fun l c2 R2 S2 e2 h2 v V => h2 v (V.back S1.back)
  split at h1
  · refine ⟨true, rfl, ?_⟩
    dsimp only
    rw [if_pos rfl]
    exact ⟨E1, W1, Γ1, R1, bk h1⟩
  · refine ⟨false, rfl, ?_⟩
    dsimp only
    rw [if_neg Bool.false_ne_true]
    exact ⟨E1, W1, Γ1, R1, bk h1⟩
  · exact h1.elim
/-- and, or of truths as values -/
theorem den_and {a b : Tm} (h : den K Wx (.and a b) σ H Q) : tAndV (den K Wx a) (den K Wx b) σ H Q := by
  obtain ⟨E, W, Γ, R, h⟩ := h
  simp only [ev] at h
  refine ⟨E, W, Γ, R, h.bind.imp fun l c1 R1 S1 e1 h1 v V => ?_⟩
  obtain ⟨E1, W1, Γ1, σ1, H1⟩ := c1
  cases e1
  split at h1
  · cases V with
    | dat d =>
      cases d
      refine ⟨true, rfl, ?_⟩
      dsimp only
      rw [if_pos rfl]
      exact ⟨E1, W1, Γ1, R1, h1.imp fun l c2 R2 S2 e2 h2 v V => h2 v (V.back S1.back)⟩
  · cases V with
    | dat d =>
      cases d
      refine ⟨false, rfl, ?_⟩
      dsimp only
      rw [if_neg Bool.false_ne_true]
      exact h1.at R1 _ (.dat (.bl _))
  · exact h1.elim
theorem den_or {a b : Tm} (h : den K Wx (.or a b) σ H Q) : tOrV (den K Wx a) (den K Wx b) σ H Q := by
  obtain ⟨E, W, Γ, R, h⟩ := h
  simp only [ev] at h
  refine ⟨E, W, Γ, R, h.bind.imp fun l c1 R1 S1 e1 h1 v V => ?_⟩
  obtain ⟨E1, W1, Γ1, σ1, H1⟩ := c1
  cases e1
  split at h1
  · cases V with
    | dat d =>
      cases d
      refine ⟨true, rfl, ?_⟩
      dsimp only
      rw [if_pos rfl]
      exact h1.at R1 _ (.dat (.bl _))
  · cases V with
    | dat d =>
      cases d
      refine ⟨false, rfl, ?_⟩
      dsimp only
      rw [if_neg Bool.false_ne_true]
      exact ⟨E1, W1, Γ1, R1, h1.imp fun l c2 R2 S2 e2 h2 v V => h2 v (V.back S1.back)⟩
  · exact h1.elim
theorem den_not {a : Tm} (h : den K Wx (.not a) σ H Q) : tNotV (den K Wx a) σ H Q := by
  obtain ⟨E, W, Γ, R, h⟩ := h
  simp only [ev] at h
  refine ⟨E, W, Γ, R, h.bind.imp fun l c1 R1 S1 e1 h1 v V => ?_⟩
  split at h1
  · cases V with
    | dat d =>
      cases d
      exact ⟨_, rfl, h1.at R1 _ (.dat (.bl _))⟩
  · exact h1.elim
theorem den_chn {f g : List D → Option Ou} {a b c : Tm} (h : den K Wx (.chn f g a b c) σ H Q) :
    tChain (fun x y => rP K f [x, y]) (fun x y => rP K g [x, y]) (den K Wx a) (den K Wx b) (den K Wx c) σ H Q := by
  obtain ⟨E, W, Γ, R, h⟩ := h
  simp only [ev] at h
  refine ⟨E, W, Γ, R, h.bind.imp fun la c1 R1 S1 e1 h1 va Va => ?_⟩
  obtain ⟨E1, W1, Γ1, σ1, H1⟩ := c1
  cases e1
  obtain rfl : E1 = E := S1.ent
  dsimp only at h1
  refine ⟨E1, W1, Γ1, R1, (PoR.bind h1).imp fun lb c2 R2 S2 e2 h2 vb Vb => ?_⟩
  obtain ⟨E2, W2, Γ2, σ2, H2⟩ := c2
  cases e2
  obtain rfl : E2 = E1 := S2.ent
  dsimp only at h2
  have Vs : ∀ {l : Vl} {v : V} {c0 : Cf}, VRel K c0 ⟨E2, W2, Γ2, σ, H2⟩ v l → VRelA K c0 ⟨E2, W2, Γ2, σ, H2⟩ [v] [l] := fun {l v c0} z => .cons z .nil fun _ _ _ m => by simp at m
  have V2 : VRelA K ⟨E2, W, Γ, σ, H⟩ ⟨E2, W2, Γ2, σ, H2⟩ [va, vb] [la, lb] := by
    refine .cons (Va.next S2 rfl) (Vs (Vb.back S1.back)) fun d d' e m => ?_
    subst e
    cases Va with
    | new _ _ _ ha => exact ha.ne (VRelA.fresh (Vs Vb) m)
  cases er : resA Γ2 [la, lb] with
  | none => rw [er] at h2; exact h2.elim
  | some ds =>
    rw [er] at h2
    dsimp only at h2
    cases ef : f ds with
    | none => rw [ef] at h2; exact h2.elim
    | some o =>
      rw [ef] at h2
      refine ⟨W2, ds, o, R2.le, R2.topA V2 er, ef, fun v W3 H3 p3 q3 => ?_⟩
      obtain ⟨R3, S3⟩ := R2.pst p3
      dsimp only at R3 S3
      cases o with
      | new _ => exact h2.elim
      | dat d =>
        cases d with
        | bl k =>
          cases q3 with
          | dat q =>
            cases q
            refine ⟨k, rfl, ?_⟩
            cases k with
            | false =>
              dsimp only
              rw [if_neg Bool.false_ne_true]
              exact h2 W3 H3 R3 S3 _ (.dat (.bl _))
            | true =>
              dsimp only
              rw [if_pos rfl]
              dsimp only at h2
              have h3 := h2.later S3 rfl
              refine ⟨E2, W3, Γ2, R3, (PoR.bind h3).imp fun lc c4 R4 S4 e4 h4 vc Vc => ?_⟩
              obtain ⟨E4, W4, Γ4, σ4, H4⟩ := c4
              cases e4
              obtain rfl : E4 = E2 := S4.ent
              dsimp only at h4
              cases er2 : resA Γ4 [lb, lc] with
              | none => rw [er2] at h4; exact h4.elim
              | some es =>
                rw [er2] at h4
                dsimp only at h4
                cases eg : g es with
                | none => rw [eg] at h4; exact h4.elim
                | some o2 =>
                  rw [eg] at h4
                  have V4 : VRelA K ⟨E4, W1, Γ1, σ, H1⟩ ⟨E4, W4, Γ4, σ, H4⟩ [vb, vc] [lb, lc] := by
                    refine .cons ((Vb.next S3 rfl).next S4 rfl) (.cons (Vc.back (fun a z => S2.back a (S3.back a z))) .nil fun _ _ _ m => by simp at m) fun d d' e m => ?_
                    subst e
                    cases Vb.next S3 rfl with
                    | new _ _ _ ha => exact ha.ne (VRelA.fresh (c0 := ⟨E4, W3, Γ2, σ, H3⟩) (c := ⟨E4, W4, Γ4, σ, H4⟩) (.cons Vc .nil fun _ _ _ m => by simp at m) m)
                  refine ⟨W4, es, o2, R4.le, R4.topA V4 er2, eg, fun v5 W5 H5 p5 q5 => ?_⟩
                  obtain ⟨R5, S5⟩ := R4.pst p5
                  dsimp only at R5 S5
                  exact h4 W5 H5 R5 S5 v5 (q5.vl (c := ⟨E4, W4, Γ4, σ, H4⟩) rfl rfl rfl rfl R4 fun a z => S1.back a (S2.back a (S3.back a (S4.back a z))))
        | _ => exact h2.elim
end
end MP

end
-- MP3
section
/-! MP3: slots changed, things frozen, methods that change, calls of defs. -/
namespace MP
open PySem L2

theorem get_set {α : Type} {l : List α} {i j : Nat} {x y : α} (h : (l.set i x)[j]? = some y) : (j = i ∧ y = x ∧ i < l.length) ∨ (j ≠ i ∧ l[j]? = some y) := by
  by_cases e : i = j
  · subst e
    by_cases hl : i < l.length
    · rw [List.getElem?_set_self hl] at h
      cases h
      exact .inl ⟨rfl, rfl, hl⟩
    · rw [List.getElem?_eq_none (by simpa using hl)] at h
      cases h
  · rw [List.getElem?_set_ne e] at h
    exact .inr ⟨Ne.symm e, h⟩
theorem isM_set {Γ : List Slot} {i j : Nat} {s : Slot} (hs : ∀ b d, s ≠ .mt b d ∧ s ≠ .lck b d) (h : IsM (Γ.set i s) j) : j ≠ i ∧ IsM Γ j := by
  obtain ⟨b, d, h | h⟩ := h
  · rcases get_set h with ⟨_, e, _⟩ | ⟨n, e⟩
    · exact absurd e.symm (hs b d).1
    · exact ⟨n, b, d, .inl e⟩
  · rcases get_set h with ⟨_, e, _⟩ | ⟨n, e⟩
    · exact absurd e.symm (hs b d).2
    · exact ⟨n, b, d, .inr e⟩
theorem dat_nm (d0 : D) : ∀ b d, Slot.dat d0 ≠ .mt b d ∧ Slot.dat d0 ≠ .lck b d := fun _ _ => ⟨nofun, nofun⟩
theorem no_nm : ∀ b d, Slot.no ≠ .mt b d ∧ Slot.no ≠ .lck b d := fun _ _ => ⟨nofun, nofun⟩

section
variable {K : PySem.W.Frag} {c c0 : Cf}
/-- a name gets a datum -/
theorem Rel.setDat {i : Nat} {v : V} {d : D} (R : Rel K c) (hd : Dr K c.W v d) (hi : i < c.Γ.length) :
    Rel K ⟨c.E, c.W, c.Γ.set i (.dat d), c.σ.set i (some v), c.H⟩ ∧ Stp c ⟨c.E, c.W, c.Γ.set i (.dat d), c.σ.set i (some v), c.H⟩ := by
  have ne : ∀ {j a}, IsM (c.Γ.set i (.dat d)) j → (c.σ.set i (some v))[j]? = some (some (.ref a)) → IsM c.Γ j ∧ c.σ[j]? = some (some (V.ref a)) := fun {j a} hj e => by
    obtain ⟨n, m⟩ := isM_set (dat_nm d) hj
    rw [List.getElem?_set_ne (Ne.symm n)] at e
    exact ⟨m, e⟩
  refine ⟨⟨by simp [R.len], R.le, R.ent, fun j d' g => ?_, fun j b d' g => ?_, fun j k a h1 h2 e1 e2 => ?_⟩, ⟨rfl, Ex.refl _, fun _ _ h _ _ => h, fun _ h => h, fun _ h => .inl h, fun a h => ?_, fun a h => ?_, fun j b d' g => ?_, fun j d' g => ?_⟩⟩
  · rcases get_set g with ⟨e1, e2, _⟩ | ⟨n, e⟩
    · subst e1
      cases e2
      exact ⟨v, by show (c.σ.set j (some v))[j]? = _; rw [List.getElem?_set_self (by rw [← R.len]; exact hi)], hd⟩
    · obtain ⟨v', e1, e2⟩ := R.dat j d' e
      exact ⟨v', by show (c.σ.set i (some v))[j]? = _; rw [List.getElem?_set_ne (Ne.symm n)]; exact e1, e2⟩
  · have g' : j ≠ i ∧ (c.Γ[j]? = some (.mt b d') ∨ c.Γ[j]? = some (.lck b d')) := by
      rcases g with g | g
      · rcases get_set g with ⟨_, e, _⟩ | ⟨n, e⟩
        · cases e
        · exact ⟨n, .inl e⟩
      · rcases get_set g with ⟨_, e, _⟩ | ⟨n, e⟩
        · cases e
        · exact ⟨n, .inr e⟩
    obtain ⟨a, e1, e2⟩ := R.am j b d' g'.2
    exact ⟨a, by show (c.σ.set i (some v))[j]? = _; rw [List.getElem?_set_ne (Ne.symm g'.1)]; exact e1, e2⟩
  · obtain ⟨m1, z1⟩ := ne h1 e1
    obtain ⟨m2, z2⟩ := ne h2 e2
    exact R.dist j k a m1 m2 z1 z2
  · obtain ⟨j, b, d', g, e⟩ := h
    rcases get_set g with ⟨_, z, _⟩ | ⟨n, z⟩
    · cases z
    · have e' : (c.σ.set i (some v))[j]? = some (some (V.ref a)) := e
      rw [List.getElem?_set_ne (Ne.symm n)] at e'
      exact .inl ⟨j, b, d', z, e'⟩
  · obtain ⟨j, g, e⟩ := h
    obtain ⟨m, z⟩ := ne g e
    exact .inl ⟨j, m, z⟩
  · rcases get_set g with ⟨_, z, _⟩ | ⟨n, z⟩
    · cases z
    · exact ⟨⟨d', z⟩, List.getElem?_set_ne (Ne.symm n)⟩
  · rcases get_set g with ⟨_, z, _⟩ | ⟨n, z⟩
    · cases z
    · exact ⟨⟨d', z⟩, List.getElem?_set_ne (Ne.symm n)⟩
/-- a name gets a new thing -/
theorem Rel.setNew {i : Nat} {a : Addr} {d : D} (R : Rel K c) (S : Stp c0 c) (h0 : c0.H a = none) (hE : c.E a = none) (hW : c.W a = none) (hA : ¬ c.ad a) (hd : MutAt K c.W c.H a d) (hi : i < c.Γ.length) :
    Rel K ⟨c.E, c.W, c.Γ.set i (.mt true d), c.σ.set i (some (.ref a)), c.H⟩ ∧ Stp c0 ⟨c.E, c.W, c.Γ.set i (.mt true d), c.σ.set i (some (.ref a)), c.H⟩ := by
  have hs : (c.σ.set i (some (V.ref a)))[i]? = some (some (.ref a)) := List.getElem?_set_self (by rw [← R.len]; exact hi)
  have cs : ∀ {j x}, IsM (c.Γ.set i (.mt true d)) j → (c.σ.set i (some (V.ref a)))[j]? = some (some (.ref x)) → (j = i ∧ x = a) ∨ (j ≠ i ∧ IsM c.Γ j ∧ c.σ[j]? = some (some (V.ref x))) := fun {j x} hj e => by
    by_cases hji : j = i
    · subst hji
      rw [hs] at e
      cases e
      exact .inl ⟨rfl, rfl⟩
    · rw [List.getElem?_set_ne (Ne.symm hji)] at e
      obtain ⟨b, d', g⟩ := hj
      rw [List.getElem?_set_ne (Ne.symm hji)] at g
      exact .inr ⟨hji, ⟨b, d', g⟩, e⟩
  refine ⟨⟨by simp [R.len], R.le, R.ent, fun j d' g => ?_, fun j b d' g => ?_, fun j k x h1 h2 e1 e2 => ?_⟩, ⟨S.ent, S.w, S.fr, S.th, S.nw, fun x h => ?_, fun x h => ?_, fun j b d' g => ?_, fun j d' g => ?_⟩⟩
  · rcases get_set g with ⟨_, e2, _⟩ | ⟨n, e⟩
    · cases e2
    · obtain ⟨v', e1, e2⟩ := R.dat j d' e
      exact ⟨v', by show (c.σ.set i (some (V.ref a)))[j]? = _; rw [List.getElem?_set_ne (Ne.symm n)]; exact e1, e2⟩
  · have g' : (j = i ∧ b = true ∧ d' = d) ∨ (j ≠ i ∧ (c.Γ[j]? = some (.mt b d') ∨ c.Γ[j]? = some (.lck b d'))) := by
      rcases g with g | g
      · rcases get_set g with ⟨e0, e, _⟩ | ⟨n, e⟩
        · cases e
          exact .inl ⟨e0, rfl, rfl⟩
        · exact .inr ⟨n, .inl e⟩
      · rcases get_set g with ⟨_, e, _⟩ | ⟨n, e⟩
        · cases e
        · exact .inr ⟨n, .inr e⟩
    rcases g' with ⟨rfl, rfl, rfl⟩ | ⟨n, g'⟩
    · exact ⟨a, hs, hW, hd, fun _ => hE⟩
    · obtain ⟨x, e1, e2⟩ := R.am j b d' g'
      exact ⟨x, by show (c.σ.set i (some (V.ref a)))[j]? = _; rw [List.getElem?_set_ne (Ne.symm n)]; exact e1, e2⟩
  · rcases cs h1 e1 with ⟨j1, x1⟩ | ⟨j1, m1, z1⟩
    · rcases cs h2 e2 with ⟨j2, x2⟩ | ⟨j2, m2, z2⟩
      · rw [j1, j2]
      · subst x1
        exact absurd ⟨k, m2, z2⟩ hA
    · rcases cs h2 e2 with ⟨j2, x2⟩ | ⟨j2, m2, z2⟩
      · subst x2
        exact absurd ⟨j, m1, z1⟩ hA
      · exact R.dist j k x m1 m2 z1 z2
  · obtain ⟨j, b, d', g, e⟩ := h
    rcases cs ⟨b, d', .inl g⟩ e with ⟨_, x1⟩ | ⟨n, _, z1⟩
    · subst x1
      exact .inr h0
    · rw [List.getElem?_set_ne (Ne.symm n)] at g
      exact S.mu x ⟨j, b, d', g, z1⟩
  · obtain ⟨j, g, e⟩ := h
    rcases cs g e with ⟨_, x1⟩ | ⟨n, m, z1⟩
    · subst x1
      exact .inr h0
    · exact S.ad x ⟨j, m, z1⟩
  · rcases get_set g with ⟨_, z, _⟩ | ⟨n, z⟩
    · cases z
    · obtain ⟨y, e⟩ := S.lk j b d' z
      exact ⟨y, by show (c.σ.set i (some (V.ref a)))[j]? = _; rw [List.getElem?_set_ne (Ne.symm n)]; exact e⟩
  · rcases get_set g with ⟨_, z, _⟩ | ⟨n, z⟩
    · cases z
    · obtain ⟨y, e⟩ := S.io j d' z
      exact ⟨y, by show (c.σ.set i (some (V.ref a)))[j]? = _; rw [List.getElem?_set_ne (Ne.symm n)]; exact e⟩

/-- the world with one thing more -/
theorem ex_upd {W : Hp} {a : Addr} {o : HO} (h : W a = none) : Ex W (upd W a o) := Ex.new h
theorem le_upd {W H : Hp} {a : Addr} {o : HO} (l : Le W H) (h : H a = some o) : Le (upd W a o) H := fun b u e => by
  by_cases q : b = a
  · subst q
    rw [upd_same] at e
    cases e
    exact .inl h
  · rw [upd_ne q] at e
    exact l b u e
theorem upd_nn {W : Hp} {a b : Addr} {o : HO} (h : upd W a o b ≠ none) : b = a ∨ W b ≠ none := by
  by_cases q : b = a
  · exact .inl q
  · rw [upd_ne q] at h
    exact .inr h
/-- a given thing is kept: it is frozen -/
theorem Rel.esc {v : V} {l : Vl} {d : D} {Γ' : List Slot} (R : Rel K c) (S : Stp c0 c) (V : VRel K c0 c v l) (e : esc l c.Γ = .ok d Γ') :
    ∃ W', Rel K ⟨c.E, W', Γ', c.σ, c.H⟩ ∧ Stp c0 ⟨c.E, W', Γ', c.σ, c.H⟩ ∧ Dr K W' v d ∧ Ex c.W W' ∧ (∀ x, W' x = c.W x ∨ W' x = c.H x) ∧ ∀ i, IsM Γ' i → IsM c.Γ i := by
  cases V with
  | dat q =>
    simp only [MP.esc] at e
    cases e
    exact ⟨c.W, R, S, q, Ex.refl _, fun a => .inl rfl, fun _ h => h⟩
  | @new a d' h0 hw hm ha =>
    simp only [MP.esc] at e
    cases e
    obtain ⟨o, ho, hD⟩ := ha.there
    have ne : ∀ x, c.ad x → x ≠ a := fun x hx z => hm (z ▸ hx)
    refine ⟨upd c.W a o, ⟨R.len, le_upd R.le ho, R.ent, fun i d g => ?_, fun i b d g => ?_, R.dist⟩, ⟨S.ent, S.w.trans (ex_upd hw), S.fr, S.th, fun x h => ?_, S.mu, S.ad, S.lk, S.io⟩, hD _ upd_same (ex_upd hw), ex_upd hw, fun x => ?_, fun _ h => h⟩
    · obtain ⟨v, e1, e2⟩ := R.dat i d g
      exact ⟨v, e1, e2.mono (ex_upd hw)⟩
    · obtain ⟨x, e1, e2, e3, e4⟩ := R.am i b d g
      exact ⟨x, e1, by show upd c.W a o x = none; rw [upd_ne (ne x ⟨i, ⟨b, d, g⟩, e1⟩)]; exact e2, e3.mono (ex_upd hw) fun _ z => z, e4⟩
    · rcases upd_nn h with z | z
      · subst z
        exact .inr (.inl h0)
      · exact S.nw x z
    · by_cases z : x = a
      · subst z
        exact .inr (by rw [upd_same, ho])
      · exact .inl (upd_ne z)
  | @ref i q =>
    simp only [MP.esc] at e
    cases g : c.Γ[q]? with
    | none => rw [g] at e; cases e
    | some s =>
      rw [g] at e
      cases s with
      | no => cases e
      | lck b d' => cases e
      | dat d' =>
        cases e
        obtain ⟨v', e1, e2⟩ := R.dat _ _ g
        rename_i hq
        rw [hq] at e1
        cases e1
        exact ⟨c.W, R, S, e2, Ex.refl _, fun a => .inl rfl, fun _ h => h⟩
      | mt b d' =>
        cases e
        obtain ⟨a, e1, hw, ha, e4⟩ := R.mt _ _ _ g
        rename_i hq
        rw [hq] at e1
        cases e1
        obtain ⟨o, ho, hD⟩ := ha.there
        have mq : IsM c.Γ q := ⟨_, _, .inl g⟩
        have lt : q < c.Γ.length := (List.getElem?_eq_some_iff.mp g).1
        refine ⟨upd c.W a o, ⟨by simp [R.len], le_upd R.le ho, R.ent, fun i d g' => ?_, fun i b d g' => ?_, fun i j x h1 h2 z1 z2 => R.dist i j x (isM_set (dat_nm _) h1).2 (isM_set (dat_nm _) h2).2 z1 z2⟩,
          ⟨S.ent, S.w.trans (ex_upd hw), S.fr, S.th, fun x h => ?_, fun x h => ?_, fun x h => ?_, fun j b' d'' g' => ?_, fun j d'' g' => ?_⟩, hD _ upd_same (ex_upd hw), ex_upd hw, fun x => ?_, fun i h => (isM_set (dat_nm _) h).2⟩
        · rcases get_set g' with ⟨z1, z2, _⟩ | ⟨n, z⟩
          · subst z1
            cases z2
            exact ⟨_, hq, hD _ upd_same (ex_upd hw)⟩
          · obtain ⟨v, z1, z2⟩ := R.dat i d z
            exact ⟨v, z1, z2.mono (ex_upd hw)⟩
        · have g2 : i ≠ q ∧ (c.Γ[i]? = some (.mt b d) ∨ c.Γ[i]? = some (.lck b d)) := by
            rcases g' with g' | g'
            · rcases get_set g' with ⟨_, z, _⟩ | ⟨n, z⟩
              · cases z
              · exact ⟨n, .inl z⟩
            · rcases get_set g' with ⟨_, z, _⟩ | ⟨n, z⟩
              · cases z
              · exact ⟨n, .inr z⟩
          obtain ⟨x, z1, z2, z3, z4⟩ := R.am i b d g2.2
          refine ⟨x, z1, ?_, z3.mono (ex_upd hw) fun _ z => z, z4⟩
          show upd c.W a o x = none
          rw [upd_ne (fun z : x = a => g2.1 (R.dist i q a ⟨_, _, g2.2⟩ mq (z ▸ z1) hq))]
          exact z2
        · rcases upd_nn h with z | z
          · subst z
            rcases S.mu x ⟨q, b, _, g, hq⟩ with m | m
            · exact .inr (.inr (.inl m))
            · exact .inr (.inl m)
          · exact S.nw x z
        · obtain ⟨j, b', d'', g', z⟩ := h
          rcases get_set g' with ⟨_, y, _⟩ | ⟨n, y⟩
          · cases y
          · exact S.mu x ⟨j, b', d'', y, z⟩
        · obtain ⟨j, g', z⟩ := h
          exact S.ad x ⟨j, (isM_set (dat_nm _) g').2, z⟩
        · rcases get_set g' with ⟨_, y, _⟩ | ⟨n, y⟩
          · cases y
          · exact S.lk j b' d'' y
        · rcases get_set g' with ⟨_, y, _⟩ | ⟨n, y⟩
          · cases y
          · exact S.io j d'' y
        · by_cases z : x = a
          · subst z
            exact .inr (by rw [upd_same, ho])
          · exact .inl (upd_ne z)
/-- .. or a new thing that is frozen by now -/
def WV (K : PySem.W.Frag) (c0 c : Cf) (v : V) (l : Vl) : Prop := VRel K c0 c v l ∨ ∃ d, l = .new d ∧ Dr K c.W v d
inductive WVA (K : PySem.W.Frag) (c0 c : Cf) : List V → List Vl → Prop
  | nil : WVA K c0 c [] []
  | cons {v : V} {vs : List V} {l : Vl} {ls : List Vl} : WV K c0 c v l → WVA K c0 c vs ls → WVA K c0 c (v :: vs) (l :: ls)
theorem VRelA.wv : ∀ {vs : List V} {ls : List Vl}, VRelA K c0 c vs ls → WVA K c0 c vs ls
  | _, _, .nil => .nil
  | _, _, .cons h r _ => .cons (.inl h) r.wv
theorem WV.more {Γ' : List Slot} {W' : Hp} {v : V} {l : Vl} (h : WV K c0 c v l) (x : Ex c.W W') (hx : ∀ a, W' a = c.W a ∨ W' a = c.H a) (hm : ∀ i, IsM Γ' i → IsM c.Γ i) : WV K c0 ⟨c.E, W', Γ', c.σ, c.H⟩ v l := by
  rcases h with h | ⟨d, e, h⟩
  · cases h with
    | dat q => exact .inl (.dat (q.mono x))
    | ref q => exact .inl (.ref q)
    | @new a d h0 hw hn ha =>
      rcases hx a with z | z
      · exact .inl (.new h0 (z.trans hw) (fun ⟨i, g, e⟩ => hn ⟨i, hm i g, e⟩) (ha.mono x fun _ y => y))
      · obtain ⟨o, ho, hD⟩ := ha.there
        exact .inr ⟨d, rfl, hD W' (z.trans ho) x⟩
  · exact .inr ⟨d, e, h.mono x⟩
theorem WVA.more {Γ' : List Slot} {W' : Hp} (x : Ex c.W W') (hx : ∀ a, W' a = c.W a ∨ W' a = c.H a) (hm : ∀ i, IsM Γ' i → IsM c.Γ i) : ∀ {vs : List V} {ls : List Vl}, WVA K c0 c vs ls → WVA K c0 ⟨c.E, W', Γ', c.σ, c.H⟩ vs ls
  | _, _, .nil => .nil
  | _, _, .cons h r => .cons (h.more x hx hm) (r.more x hx hm)
theorem Rel.escW {v : V} {l : Vl} {d : D} {Γ' : List Slot} (R : Rel K c) (S : Stp c0 c) (V : WV K c0 c v l) (e : MP.esc l c.Γ = .ok d Γ') :
    ∃ W', Rel K ⟨c.E, W', Γ', c.σ, c.H⟩ ∧ Stp c0 ⟨c.E, W', Γ', c.σ, c.H⟩ ∧ Dr K W' v d ∧ Ex c.W W' ∧ (∀ x, W' x = c.W x ∨ W' x = c.H x) ∧ ∀ i, IsM Γ' i → IsM c.Γ i := by
  rcases V with V | ⟨d', e', V⟩
  · exact R.esc S V e
  · subst e'
    simp only [MP.esc] at e
    cases e
    exact ⟨c.W, R, S, V, Ex.refl _, fun a => .inl rfl, fun _ h => h⟩
theorem esc_ne {l : Vl} {Γ Γ' : List Slot} {x : Xn} (e : MP.esc l Γ = .exn x Γ') : False := by
  unfold MP.esc at e
  split at e
  · cases e
  · cases e
  · split at e <;> cases e
theorem escA_ne : ∀ {ls : List Vl} {Γ Γ' : List Slot} {x : Xn}, escA ls Γ = .exn x Γ' → False
  | [], _, _, _, e => by simp only [escA] at e; cases e
  | l :: ls, Γ, Γ', x, e => by
    simp only [escA] at e
    cases e1 : MP.esc l Γ with
    | stuck => rw [e1] at e; cases e
    | exn y Γ1 => exact esc_ne e1
    | ok d Γ1 =>
      rw [e1] at e
      simp only [Rs.bind] at e
      cases e2 : escA ls Γ1 with
      | stuck => rw [e2] at e; cases e
      | exn y Γ2 => exact escA_ne e2
      | ok ds Γ2 => rw [e2] at e; cases e
theorem Rel.escA : ∀ {ls : List Vl} {c : Cf} {vs : List V} {ds : List D} {Γ' : List Slot}, Rel K c → Stp c0 c → WVA K c0 c vs ls → MP.escA ls c.Γ = .ok ds Γ' →
    ∃ W', Rel K ⟨c.E, W', Γ', c.σ, c.H⟩ ∧ Stp c0 ⟨c.E, W', Γ', c.σ, c.H⟩ ∧ DrA K W' vs ds ∧ Ex c.W W' ∧ (∀ x, W' x = c.W x ∨ W' x = c.H x) ∧ ∀ i, IsM Γ' i → IsM c.Γ i
  | [], c, _, ds, Γ', R, S, .nil, e => by
    simp only [MP.escA] at e
    cases e
    exact ⟨c.W, R, S, .nil, Ex.refl _, fun a => .inl rfl, fun _ h => h⟩
  | l :: ls, c, _, ds, Γ', R, S, .cons h r, e => by
    simp only [MP.escA] at e
    cases e1 : MP.esc l c.Γ with
    | stuck => rw [e1] at e; cases e
    | exn y Γ1 => exact (esc_ne e1).elim
    | ok d Γ1 =>
      rw [e1] at e
      simp only [Rs.bind] at e
      obtain ⟨W1, R1, S1, d1, x1, y1, m1⟩ := R.escW S h e1
      cases e2 : MP.escA ls Γ1 with
      | stuck => rw [e2] at e; cases e
      | exn y Γ2 => exact (escA_ne e2).elim
      | ok ds' Γ2 =>
        rw [e2] at e
        cases e
        obtain ⟨W2, R2, S2, d2, x2, y2, m2⟩ := Rel.escA (c := ⟨c.E, W1, Γ1, c.σ, c.H⟩) R1 S1 (r.more x1 y1 m1) e2
        refine ⟨W2, R2, S2, .cons (d1.mono x2) d2, x1.trans x2, fun x => ?_, fun i h => m1 i (m2 i h)⟩
        rcases y2 x with z | z
        · rcases y1 x with y | y
          · exact .inl (z.trans y)
          · exact .inr (z.trans y)
        · exact .inr z
end

/-! ### methods that change the thing of a slot -/
structure MSt (K : PySem.W.Frag) (W H : Hp) (a : Addr) (d' : D) (W' H' : Hp) : Prop where
  w : Ex W W'
  le : Le W' H'
  fr : ∀ b o, H b = some o → b ≠ a → H' b = some o
  at_ : MutAt K W' H' a d'
  out : W' a = none
  nw : ∀ b, W' b ≠ none → W b ≠ none ∨ H b = none ∨ IsT H b
def rM (K : PySem.W.Frag) (f : D → List D → Option (D × Ou)) (x : V) (vs : List V) (H : Hp) (Q : VK) : Prop :=
  ∃ a W d ds d' o, x = .ref a ∧ W a = none ∧ Le W H ∧ MutAt K W H a d ∧ DrA K W vs ds ∧ f d ds = some (d', o) ∧ ∀ v W' H', MSt K W H a d' W' H' → ORel K H W' H' v o → Q v H'
section
variable {K : PySem.W.Frag} {Wx : WX} {σ : St} {H : Hp} {Q : VK} {c : Cf}
theorem Rel.mst {i : Nat} {b : Bool} {d d' : D} {a : Addr} {W' H' : Hp} (R : Rel K c) (g : c.Γ[i]? = some (.mt b d)) (e : c.σ[i]? = some (some (.ref a))) (m : MSt K c.W c.H a d' W' H') :
    Rel K ⟨c.E, W', c.Γ.set i (.mt b d'), c.σ, H'⟩ ∧ Stp c ⟨c.E, W', c.Γ.set i (.mt b d'), c.σ, H'⟩ := by
  have lt : i < c.Γ.length := (List.getElem?_eq_some_iff.mp g).1
  have mi : IsM c.Γ i := ⟨b, d, .inl g⟩
  have th : ∀ x, c.H x ≠ none → H' x ≠ none := fun x h => by
    by_cases q : x = a
    · subst q; exact m.at_.ne
    · obtain ⟨o, z⟩ := ne_none h
      rw [m.fr x o z q]; exact nofun
  have ims : ∀ {j}, IsM (c.Γ.set i (.mt b d')) j → IsM c.Γ j := fun {j} h => by
    by_cases q : j = i
    · subst q; exact mi
    · obtain ⟨b', e', h⟩ := h
      rw [List.getElem?_set_ne (Ne.symm q)] at h
      exact ⟨b', e', h⟩
  refine ⟨⟨by simp [R.len], m.le, fun x h => th x (R.ent x h), fun j e' g' => ?_, fun j b' e' g' => ?_, fun j k x h1 h2 => R.dist j k x (ims h1) (ims h2)⟩, ⟨rfl, m.w, fun x o h n _ => ?_, th, fun x h => ?_, fun x h => ?_, fun x h => ?_, fun j b' e' g' => ?_, fun j e' g' => ?_⟩⟩
  · rcases get_set g' with ⟨_, z, _⟩ | ⟨n, z⟩
    · cases z
    · obtain ⟨v, z1, z2⟩ := R.dat j e' z
      exact ⟨v, z1, z2.mono m.w⟩
  · by_cases q : j = i
    · subst q
      have z : b' = b ∧ e' = d' := by
        rcases g' with g' | g'
        · rw [List.getElem?_set_self lt] at g'; cases g'; exact ⟨rfl, rfl⟩
        · rw [List.getElem?_set_self lt] at g'; cases g'
      obtain ⟨rfl, rfl⟩ := z
      obtain ⟨a', z1, z2, z3, z4⟩ := R.mt _ _ _ g
      rw [e] at z1
      cases z1
      exact ⟨a, e, m.out, m.at_, z4⟩
    · have g2 : c.Γ[j]? = some (.mt b' e') ∨ c.Γ[j]? = some (.lck b' e') := by
        rw [List.getElem?_set_ne (Ne.symm q)] at g'
        exact g'
      obtain ⟨x, z1, z2, z3, z4⟩ := R.am j b' e' g2
      have hx : x ≠ a := fun z => q (R.dist j i a ⟨b', e', g2⟩ mi (z ▸ z1) e)
      refine ⟨x, z1, ?_, z3.mono m.w fun o z => m.fr x o z hx, z4⟩
      show W' x = none
      by_cases y : W' x = none
      · exact y
      · rcases m.nw x y with z | z | z
        · exact absurd z2 z
        · exact absurd z z3.ne
        · exact absurd z z3.notT
  · exact m.fr x o h fun z => n ⟨i, b, d, g, z ▸ e⟩
  · rcases m.nw x h with z | z | z
    · exact .inl z
    · exact .inr (.inl z)
    · exact .inr (.inr (.inr z))
  · obtain ⟨j, b', e', g', z⟩ := h
    by_cases q : j = i
    · subst q
      exact .inl ⟨j, b, d, g, z⟩
    · rw [List.getElem?_set_ne (Ne.symm q)] at g'
      exact .inl ⟨j, b', e', g', z⟩
  · obtain ⟨j, g', z⟩ := h
    exact .inl ⟨j, ims g', z⟩
  · rcases get_set g' with ⟨_, z, _⟩ | ⟨n, z⟩
    · cases z
    · exact ⟨⟨e', z⟩, rfl⟩
  · rcases get_set g' with ⟨z0, z, _⟩ | ⟨n, z⟩
    · subst z0
      cases z
      exact ⟨⟨d, g⟩, rfl⟩
    · exact ⟨⟨e', z⟩, rfl⟩
/-- a display: its parts are kept -/
def rK (K : PySem.W.Frag) (f : List D → Option Ou) (vs : List V) (H : Hp) (Q : VK) : Prop :=
  ∃ W ds o, Le W H ∧ DrA K W vs ds ∧ f ds = some o ∧ ∀ v W' H', PSt W H W' H' → ORel K H W' H' v o → Q v H'
theorem den_mk {f : List D → Option Ou} {as : Ta} (h : den K Wx (.mk f as) σ H Q) : denA K Wx as σ H fun vs H2 => rK K f vs H2 Q := by
  obtain ⟨E, W, Γ, R, h⟩ := h
  simp only [ev] at h
  refine ⟨E, W, Γ, R, h.bind0.imp fun ls c1 R1 S1 es h1 vs V1 => ?_⟩
  obtain ⟨E1, W1, Γ1, σ1, H1⟩ := c1
  cases es
  obtain rfl : E1 = E := S1.ent
  dsimp only at h1
  cases ee : escA ls Γ1 with
  | stuck => rw [ee] at h1; exact h1.elim
  | exn x Γ2 => exact (escA_ne ee).elim
  | ok ds Γ2 =>
    rw [ee] at h1
    simp only [Rs.bind] at h1
    obtain ⟨W2, R2, S2, d2, x2, y2, m2⟩ := Rel.escA R1 S1 V1.wv ee
    cases ef : f ds with
    | none => rw [ef] at h1; exact h1.elim
    | some o =>
      rw [ef] at h1
      refine ⟨W2, ds, o, R2.le, d2, ef, fun v W' H' p q => ?_⟩
      obtain ⟨R3, S3⟩ := R2.pst p
      exact h1 W' H' R3 (S2.trans S3) v (q.vl (c := ⟨E1, W2, Γ2, σ, H1⟩) rfl rfl rfl rfl R2 S1.back)
theorem den_mth {k : D → Bool} {f : D → List D → Option (D × Ou)} {i : Nat} {as : Ta} (h : den K Wx (.mth k f i as) σ H Q) :
    ∃ a W d, σ[i]? = some (some (.ref a)) ∧ MutAt K W H a d ∧ k d = true ∧ denA K Wx as σ H fun vs H2 => rM K f (.ref a) vs H2 Q := by
  obtain ⟨E, W, Γ, R, h⟩ := h
  simp only [ev] at h
  cases g : Γ[i]? with
  | none => rw [g] at h; exact h.elim
  | some s =>
    rw [g] at h
    cases s with
    | no => exact h.elim
    | dat d => exact h.elim
    | lck b d => exact h.elim
    | mt b0 d0 =>
      simp only at h
      split at h
      · rename_i hk
        obtain ⟨a, e1, _, e3, _⟩ := R.mt i b0 d0 g
        refine ⟨a, W, d0, e1, e3, hk, E, W, Γ, R, h.bind0.imp fun ls c1 R1 S1 es h1 vs V1 => ?_⟩
        obtain ⟨E1, W1, Γ1, σ1, H1⟩ := c1
        cases es
        obtain rfl : E1 = E := S1.ent
        dsimp only at h1
        cases ee : escA ls Γ1 with
        | stuck => rw [ee] at h1; exact h1.elim
        | exn x Γ2 => exact (escA_ne ee).elim
        | ok ds Γ2 =>
          rw [ee] at h1
          simp only [Rs.bind] at h1
          obtain ⟨W2, R2, S2, d2, x2, y2, m2⟩ := Rel.escA R1 S1 V1.wv ee
          cases g2 : Γ2[i]? with
          | none => rw [g2] at h1; exact h1.elim
          | some s2 =>
            rw [g2] at h1
            cases s2 with
            | no => exact h1.elim
            | dat d => exact h1.elim
            | lck b d => exact h1.elim
            | mt b d =>
              simp only at h1
              cases ef : f d ds with
              | none => rw [ef] at h1; exact h1.elim
              | some p =>
                obtain ⟨d', o⟩ := p
                rw [ef] at h1
                obtain ⟨a', z1, z2, z3, z4⟩ := R2.mt i b d g2
                have za : σ[i]? = some (some (V.ref a')) := z1
                rw [e1] at za
                cases za
                refine ⟨a, W2, d, ds, d', o, rfl, z2, R2.le, z3, d2, ef, fun v W' H' m q => ?_⟩
                obtain ⟨R3, S3⟩ := R2.mst g2 z1 m
                refine h1 W' H' R3 (S2.trans S3) v ?_
                cases q with
                | dat q => exact .dat q
                | @new x _ y1 y2 y3 =>
                  refine .new (S1.back _ y1) y2 (fun z => ?_) y3
                  rcases S3.ad _ z with w | w
                  · exact (R2.ad_ne w).1 y1
                  · have : H1 x = none := w
                    obtain ⟨j, ⟨b', e', g'⟩, ej⟩ := z
                    by_cases qj : j = i
                    · subst qj
                      have ej' : σ[j]? = some (some (V.ref x)) := ej
                      rw [e1] at ej'
                      cases ej'
                      exact z3.ne y1
                    · rw [List.getElem?_set_ne (Ne.symm qj)] at g'
                      obtain ⟨x', w1, w2, w3, w4⟩ := R2.am j b' e' g'
                      have ej' : σ[j]? = some (some (V.ref x)) := ej
                      have w1' : σ[j]? = some (some (V.ref x')) := w1
                      rw [ej'] at w1'
                      cases w1'
                      exact w3.ne y1
      · exact h.elim
end
end MP

end
-- MP4
section
/-! MP4: a def's promise by its function; the reading of a call. -/
namespace MP
open PySem L2
def ioA : List Bool → List V → List Addr
  | true :: bs, .ref a :: vs => a :: ioA bs vs
  | _ :: bs, _ :: vs => ioA bs vs
  | _, _ => []
inductive ArgR (K : PySem.W.Frag) (W H : Hp) : List Bool → List V → List D → Prop
  | nil : ArgR K W H [] [] []
  | dat {v : V} {d : D} {bs : List Bool} {vs : List V} {ds : List D} : Dr K W v d → ArgR K W H bs vs ds → ArgR K W H (false :: bs) (v :: vs) (d :: ds)
  | io {a : Addr} {d : D} {bs : List Bool} {vs : List V} {ds : List D} : W a = none → MutAt K W H a d → ArgR K W H bs vs ds → ArgR K W H (true :: bs) (.ref a :: vs) (d :: ds)
theorem ArgR.length {K : PySem.W.Frag} {W H : Hp} : ∀ {bs : List Bool} {vs : List V} {ds : List D}, ArgR K W H bs vs ds → vs.length = bs.length ∧ ds.length = bs.length
  | _, _, _, .nil => ⟨rfl, rfl⟩
  | _, _, _, .dat _ r => by simp [r.length.1, r.length.2]
  | _, _, _, .io _ _ r => by simp [r.length.1, r.length.2]
structure FSt (W H : Hp) (A : List Addr) (W' H' : Hp) : Prop where
  w : Ex W W'
  le : Le W' H'
  fr : ∀ a o, H a = some o → a ∉ A → (W a = none ∨ lkb o = false) → H' a = some o
  th : ∀ a, H a ≠ none → H' a ≠ none
  nw : ∀ a, W' a ≠ none → W a ≠ none ∨ H a = none ∨ IsT H a
inductive IoR (K : PySem.W.Frag) (W H : Hp) : List Addr → List D → Prop
  | nil : IoR K W H [] []
  | cons {a : Addr} {d : D} {as : List Addr} {ds : List D} : W a = none → MutAt K W H a d → IoR K W H as ds → IoR K W H (a :: as) (d :: ds)
theorem IoR.get {K : PySem.W.Frag} {W H : Hp} : ∀ {as : List Addr} {ds : List D} {k : Nat} {a : Addr} {d : D}, IoR K W H as ds → as[k]? = some a → ds[k]? = some d → W a = none ∧ MutAt K W H a d
  | _, _, _, _, _, .nil, e, _ => by simp at e
  | _, _, 0, _, _, .cons h1 h2 _, e, e' => by simp at e e'; subst e e'; exact ⟨h1, h2⟩
  | _, _, k + 1, a, d, .cons _ _ r, e, e' => IoR.get (k := k) (a := a) (d := d) r (by simpa using e) (by simpa using e')
/-- a def's promise -/
def spF (K : PySem.W.Frag) (f : Fn) : Sp := fun vs H Q E => ∃ W ds, Le W H ∧ ArgR K W H f.io vs ds ∧ (ioA f.io vs).Nodup ∧ (match f.F ds with
  | .ok o ios => ∀ v W' H', FSt W H (ioA f.io vs) W' H' → IoR K W' H' (ioA f.io vs) ios → ORel K H W' H' v o → Q v H'
  | .exn x ios => ∀ cls d W' H', FSt W H (ioA f.io vs) W' H' → IoR K W' H' (ioA f.io vs) ios → XRel K W' H' x cls d → E cls d H'
  | .stuck => False)

/-! ### slots behind a call -/
theorem put1_get {Γ : List Slot} {i : Nat} {d : D} {b : Bool} {d0 : D} (g : Γ[i]? = some (.mt b d0)) : put1 Γ i d = Γ.set i (.mt b d) := by
  unfold put1
  rw [g]
theorem isMt_iff {Γ : List Slot} {i : Nat} (h : isMt Γ i = true) : ∃ b d, Γ[i]? = some (.mt b d) := by
  unfold isMt at h
  split at h
  · rename_i b d g
    exact ⟨b, d, g⟩
  · cases h
theorem isMt_of {Γ : List Slot} {i : Nat} {b : Bool} {d : D} (h : Γ[i]? = some (.mt b d)) : isMt Γ i = true := by
  unfold isMt
  rw [h]
theorem putA_get : ∀ {is : List Nat} {ios : List D} {Γ : List Slot}, is.Nodup → ios.length = is.length → (∀ i ∈ is, isMt Γ i = true) → ∀ {j : Nat} {s : Slot}, (putA Γ is ios)[j]? = some s →
    (j ∉ is ∧ Γ[j]? = some s) ∨ ∃ (k : Nat) (b : Bool) (d d' : D), is[k]? = some j ∧ ios[k]? = some d' ∧ Γ[j]? = some (.mt b d) ∧ s = .mt b d'
  | [], ios, Γ, _, _, _, j, s, h => by
    have h' : Γ[j]? = some s := by
      cases ios <;> exact h
    exact .inl ⟨by simp, h'⟩
  | i :: is, [], Γ, _, hl, _, j, s, h => by simp at hl
  | i :: is, d :: ios, Γ, hn, hl, hm, j, s, h => by
    obtain ⟨b, d0, g⟩ := isMt_iff (hm i List.mem_cons_self)
    have lt : i < Γ.length := (List.getElem?_eq_some_iff.mp g).1
    obtain ⟨hi, hn'⟩ := List.nodup_cons.mp hn
    have h' : (putA (Γ.set i (.mt b d)) is ios)[j]? = some s := by
      have : putA Γ (i :: is) (d :: ios) = putA (put1 Γ i d) is ios := rfl
      rw [this, put1_get g] at h
      exact h
    have hm' : ∀ k ∈ is, isMt (Γ.set i (.mt b d)) k = true := fun k hk => by
      have ne : i ≠ k := fun z => hi (z ▸ hk)
      obtain ⟨b', d', g'⟩ := isMt_iff (hm k (List.mem_cons_of_mem _ hk))
      exact isMt_of (b := b') (d := d') (by rw [List.getElem?_set_ne ne]; exact g')
    rcases putA_get hn' (by simpa using hl) hm' h' with ⟨n, z⟩ | ⟨k, b', d1, d2, z1, z2, z3, z4⟩
    · by_cases q : i = j
      · subst q
        rw [List.getElem?_set_self lt] at z
        cases z
        exact .inr ⟨0, b, d0, d, by simp, by simp, g, rfl⟩
      · rw [List.getElem?_set_ne q] at z
        exact .inl ⟨by simp only [List.mem_cons, not_or]; exact ⟨fun y => q y.symm, n⟩, z⟩
    · have ne : i ≠ j := fun z => hi (z ▸ List.mem_of_getElem? z1)
      rw [List.getElem?_set_ne ne] at z3
      exact .inr ⟨k + 1, b', d1, d2, by simpa using z1, by simpa using z2, z3, z4⟩
theorem put1_len {Γ : List Slot} {i : Nat} {d : D} : (put1 Γ i d).length = Γ.length := by
  unfold put1
  split <;> simp
theorem putA_len : ∀ {is : List Nat} {ios : List D} {Γ : List Slot}, (putA Γ is ios).length = Γ.length
  | [], ios, Γ => by cases ios <;> rfl
  | i :: is, [], Γ => rfl
  | i :: is, d :: ios, Γ => by
    show (putA (put1 Γ i d) is ios).length = _
    rw [putA_len, put1_len]
theorem freeze1_len {Γ : List Slot} {i : Nat} : (freeze1 Γ i).length = Γ.length := by
  unfold freeze1
  split <;> simp
theorem freezeA_len : ∀ {is : List Nat} {Γ : List Slot}, (freezeA Γ is).length = Γ.length
  | [], Γ => rfl
  | i :: is, Γ => by
    show (freezeA (freeze1 Γ i) is).length = _
    rw [freezeA_len, freeze1_len]
theorem freezeA_get : ∀ {L : List Nat} {Γ : List Slot} {j : Nat} {s : Slot}, (freezeA Γ L)[j]? = some s → (Γ[j]? = some s ∧ (j ∈ L → ∀ b d, s ≠ .mt b d)) ∨ ∃ b d, j ∈ L ∧ Γ[j]? = some (.mt b d) ∧ s = .dat d
  | [], Γ, j, s, h => .inl ⟨h, fun z => by simp at z⟩
  | i :: L, Γ, j, s, h => by
    have h' : (freezeA (freeze1 Γ i) L)[j]? = some s := h
    rcases freezeA_get h' with ⟨z, n⟩ | ⟨b, d, m, z, e⟩
    · unfold freeze1 at z
      split at z
      · rename_i b d g
        rcases get_set z with ⟨e1, e2, _⟩ | ⟨n1, e1⟩
        · subst e1 e2
          exact .inr ⟨b, d, List.mem_cons_self, g, rfl⟩
        · exact .inl ⟨e1, fun hm => by
            rcases List.mem_cons.mp hm with y | y
            · exact absurd y n1
            · exact n y⟩
      · rename_i g
        refine .inl ⟨z, fun hm b d e => ?_⟩
        subst e
        rcases List.mem_cons.mp hm with y | y
        · subst y
          exact g b d z
        · exact n y b d rfl
    · unfold freeze1 at z
      split at z
      · rcases get_set z with ⟨_, e2, _⟩ | ⟨n1, e1⟩
        · cases e2
        · exact .inr ⟨b, d, List.mem_cons_of_mem _ m, e1, e⟩
      · exact .inr ⟨b, d, List.mem_cons_of_mem _ m, z, e⟩

section
variable {K : PySem.W.Frag} {c c1 : Cf}
/-- addresses of in-out slots -/
inductive IoC (σ : St) : List Nat → List Addr → Prop
  | nil : IoC σ [] []
  | cons {i : Nat} {a : Addr} {is : List Nat} {as : List Addr} : σ[i]? = some (some (.ref a)) → IoC σ is as → IoC σ (i :: is) (a :: as)
theorem IoC.get {σ : St} : ∀ {is : List Nat} {as : List Addr} {k i : Nat}, IoC σ is as → is[k]? = some i → ∃ a, as[k]? = some a ∧ σ[i]? = some (some (.ref a))
  | _, _, _, _, .nil, e => by simp at e
  | _, _, 0, _, .cons h _, e => by simp at e; subst e; exact ⟨_, rfl, h⟩
  | _, _, k + 1, i, .cons _ r, e => by
    obtain ⟨a, h1, h2⟩ := IoC.get (k := k) (i := i) r (by simpa using e)
    exact ⟨a, by simpa using h1, h2⟩
theorem IoC.mem {σ : St} : ∀ {is : List Nat} {as : List Addr} {a : Addr}, IoC σ is as → a ∈ as → ∃ i ∈ is, σ[i]? = some (some (.ref a))
  | _, _, _, .nil, e => by simp at e
  | _, _, a, .cons (i := i) h r, e => by
    rcases List.mem_cons.mp e with z | z
    · subst z; exact ⟨i, List.mem_cons_self, h⟩
    · obtain ⟨j, h1, h2⟩ := r.mem z
      exact ⟨j, List.mem_cons_of_mem _ h1, h2⟩
theorem IoC.nodup (R : Rel K c1) : ∀ {is : List Nat} {as : List Addr}, IoC c1.σ is as → is.Nodup → (∀ i ∈ is, isMt c1.Γ i = true) → as.Nodup
  | _, _, .nil, _, _ => List.nodup_nil
  | _, _, .cons (i := i) (a := a) h r, hn, hm => by
    obtain ⟨hi, hn'⟩ := List.nodup_cons.mp hn
    refine List.nodup_cons.mpr ⟨fun z => ?_, IoC.nodup R r hn' fun j hj => hm j (List.mem_cons_of_mem _ hj)⟩
    obtain ⟨j, hj, e⟩ := r.mem z
    obtain ⟨b, d, g⟩ := isMt_iff (hm i List.mem_cons_self)
    obtain ⟨b', d', g'⟩ := isMt_iff (hm j (List.mem_cons_of_mem _ hj))
    exact hi (R.dist i j a ⟨b, d, .inl g⟩ ⟨b', d', .inl g'⟩ h e ▸ hj)
theorem ioC_of {c0 : Cf} (R : Rel K c1) : ∀ {bs : List Bool} {vs : List V} {ls : List Vl} {is : List Nat}, VRelA K c0 c1 vs ls → ioIx bs ls = some is → (∀ i ∈ is, isMt c1.Γ i = true) → IoC c1.σ is (ioA bs vs)
  | [], _, _, is, .nil, e, _ => by
    simp only [ioIx] at e
    cases e
    exact .nil
  | [], _, _, is, .cons _ _ _, e, _ => by simp [ioIx] at e
  | true :: bs, _, _, is, .nil, e, _ => by simp [ioIx] at e
  | false :: bs, _, _, is, .nil, e, _ => by simp [ioIx] at e
  | false :: bs, _, _, is, .cons (v := v) (ls := ls) h r _, e, hm => by
    have e' : ioIx bs ls = some is := by
      unfold ioIx at e
      exact e
    have z := ioC_of R r e' hm
    cases v <;> exact z
  | true :: bs, _, _, is, .cons (l := l) (ls := ls) h r _, e, hm => by
    cases h with
    | dat _ => simp [ioIx] at e
    | new _ _ _ _ => simp [ioIx] at e
    | @ref v i hq =>
      unfold ioIx at e
      cases q : ioIx bs ls with
      | none => rw [q] at e; cases e
      | some is' =>
        rw [q] at e
        cases e
        obtain ⟨b, d, g⟩ := isMt_iff (hm i List.mem_cons_self)
        obtain ⟨a, e1, _⟩ := R.mt i b d g
        rw [hq] at e1
        cases e1
        exact .cons hq (ioC_of R r q fun j hj => hm j (List.mem_cons_of_mem _ hj))
/-- what is lent or new among the arguments -/
inductive LP (Γ : List Slot) : List Bool → List V → List Vl → Addr → Prop
  | new {bs : List Bool} {vs : List V} {ls : List Vl} {a : Addr} {d : D} : LP Γ (false :: bs) (.ref a :: vs) (.new d :: ls) a
  | ref {bs : List Bool} {vs : List V} {ls : List Vl} {a : Addr} {i : Nat} : IsM Γ i → LP Γ (false :: bs) (.ref a :: vs) (.ref i :: ls) a
  | tl {bs : List Bool} {vs : List V} {ls : List Vl} {a : Addr} {b : Bool} {v : V} {l : Vl} : LP Γ bs vs ls a → LP Γ (b :: bs) (v :: vs) (l :: ls) a
/-- a lent thing is new since c0, or that of a slot that is lent -/
theorem LP.what {c0 : Cf} (R : Rel K c1) {bs : List Bool} {vs : List V} {ls : List Vl} {a : Addr} (V : VRelA K c0 c1 vs ls) (q : LP c1.Γ bs vs ls a) :
    c1.W a = none ∧ c1.H a ≠ none ∧ ((c0.H a = none ∧ ¬ c1.ad a) ∨ ∃ i, i ∈ lent c1.Γ bs ls ∧ IsM c1.Γ i ∧ c1.σ[i]? = some (some (.ref a))) := by
  induction q with
  | new =>
    cases V with
    | cons h r _ =>
      cases h with
      | new h0 hw hm ha => exact ⟨hw, ha.ne, .inl ⟨h0, hm⟩⟩
  | @ref bs vs ls a i hm =>
    cases V with
    | cons h r _ =>
      cases h with
      | ref hq =>
        obtain ⟨b, d, g⟩ := id hm
        obtain ⟨a', e1, e2, e3, _⟩ := R.am i b d g
        rw [hq] at e1
        cases e1
        refine ⟨e2, e3.ne, .inr ⟨i, ?_, hm, hq⟩⟩
        unfold lent
        rcases g with g | g <;> rw [g] <;> exact List.mem_cons_self
  | @tl bs vs ls a b v l q ih =>
    cases V with
    | cons h r _ =>
      obtain ⟨z1, z2, z3⟩ := ih r
      refine ⟨z1, z2, ?_⟩
      rcases z3 with z | ⟨i, y1, y2⟩
      · exact .inl z
      · refine .inr ⟨i, ?_, y2⟩
        cases b with
        | true => cases l <;> exact y1
        | false =>
          cases l with
          | dat d => exact y1
          | new d => exact y1
          | ref j =>
            unfold lent
            split
            · exact List.mem_cons_of_mem _ y1
            · exact List.mem_cons_of_mem _ y1
            · exact y1
theorem lent_isM : ∀ {Γ : List Slot} {bs : List Bool} {ls : List Vl} {i : Nat}, i ∈ lent Γ bs ls → IsM Γ i
  | Γ, [], ls, i, h => by simp [lent] at h
  | Γ, true :: bs, [], i, h => by simp [lent] at h
  | Γ, false :: bs, [], i, h => by simp [lent] at h
  | Γ, true :: bs, l :: ls, i, h => by
    have h' : i ∈ lent Γ bs ls := by cases l <;> exact h
    exact lent_isM h'
  | Γ, false :: bs, .dat d :: ls, i, h => lent_isM (bs := bs) (ls := ls) h
  | Γ, false :: bs, .new d :: ls, i, h => lent_isM (bs := bs) (ls := ls) h
  | Γ, false :: bs, .ref j :: ls, i, h => by
    unfold lent at h
    split at h
    · rename_i b d g
      rcases List.mem_cons.mp h with z | z
      · subst z; exact ⟨b, d, .inl g⟩
      · exact lent_isM z
    · rename_i b d g
      rcases List.mem_cons.mp h with z | z
      · subst z; exact ⟨b, d, .inr g⟩
      · exact lent_isM z
    · exact lent_isM h
/-- a lent slot's thing is among what is lent -/
theorem LP.of_lent {c0 : Cf} (R : Rel K c1) : ∀ {bs : List Bool} {vs : List V} {ls : List Vl} {i : Nat} {a : Addr}, VRelA K c0 c1 vs ls → bs.length = vs.length → i ∈ lent c1.Γ bs ls → c1.σ[i]? = some (some (.ref a)) → LP c1.Γ bs vs ls a
  | [], _, _, i, a, _, _, h, _ => by simp [lent] at h
  | true :: bs, _, _, i, a, .nil, hl, h, _ => by simp at hl
  | false :: bs, _, _, i, a, .nil, hl, h, _ => by simp at hl
  | true :: bs, _, _, i, a, .cons (l := l) (ls := ls) _ r _, hl, h, e => by
    have h' : i ∈ lent c1.Γ bs ls := by cases l <;> exact h
    exact .tl (LP.of_lent R r (by simpa using hl) h' e)
  | false :: bs, _, _, i, a, .cons (l := l) (ls := ls) q r _, hl, h, e => by
    have hl' := Nat.succ.inj hl
    cases q with
    | dat _ => exact .tl (LP.of_lent R r hl' h e)
    | new _ _ _ _ => exact .tl (LP.of_lent R r hl' h e)
    | @ref v j hq =>
      have hi := lent_isM h
      unfold lent at h
      split at h
      · rename_i b d g
        rcases List.mem_cons.mp h with z | z
        · subst z
          rw [hq] at e
          cases e
          exact .ref hi
        · exact .tl (LP.of_lent R r hl' z e)
      · rename_i b d g
        rcases List.mem_cons.mp h with z | z
        · subst z
          rw [hq] at e
          cases e
          exact .ref hi
        · exact .tl (LP.of_lent R r hl' z e)
      · exact .tl (LP.of_lent R r hl' h e)
end
end MP

end
-- MP5
section
/-! MP5: the reading of a def's call. -/
namespace MP
open PySem L2
section
variable {K : PySem.W.Frag} {Wx : WX} {c c1 : Cf}
theorem Rel.called (R1 : Rel K c1) (S1 : Stp c c1) {is : List Nat} {ios : List D} {fz : List Nat} {A : List Addr} {W' H' : Hp} (hn : is.Nodup) (hl : ios.length = is.length) (hm : ∀ i ∈ is, isMt c1.Γ i = true) (C : IoC c1.σ is A)
    (w : Ex c1.W W') (le : Le W' H') (fr : ∀ a o, c1.H a = some o → a ∉ A → (c1.ad a ∨ c.H a = some o) → (W' a = none ∨ lkb o = false) → H' a = some o) (th : ∀ a, c1.H a ≠ none → H' a ≠ none) (io : IoR K W' H' A ios)
    (nf : ∀ a, c1.ad a → a ∉ A → (∀ i ∈ fz, c1.σ[i]? ≠ some (some (.ref a))) → W' a = none)
    (hfz : ∀ i ∈ fz, i ∉ is ∧ ∃ b d a, c1.Γ[i]? = some (.mt b d) ∧ c1.σ[i]? = some (some (.ref a)) ∧ Dr K W' (.ref a) d)
    (nw : ∀ a, W' a ≠ none → c.W a ≠ none ∨ c.H a = none ∨ c.mu a ∨ IsT c.H a) :
    Rel K ⟨c1.E, W', freezeA (putA c1.Γ is ios) fz, c1.σ, H'⟩ ∧ Stp c ⟨c1.E, W', freezeA (putA c1.Γ is ios) fz, c1.σ, H'⟩ := by
  have muA : ∀ a ∈ A, c1.mu a := fun a ha => by
    obtain ⟨i, hi, e⟩ := C.mem ha
    obtain ⟨b, d, g⟩ := isMt_iff (hm i hi)
    exact ⟨i, b, d, g, e⟩
  -- what a slot holds behind the call
  have sl : ∀ {j : Nat} {s : Slot}, (freezeA (putA c1.Γ is ios) fz)[j]? = some s →
      (j ∉ is ∧ c1.Γ[j]? = some s ∧ (j ∈ fz → ∀ b d, s ≠ .mt b d)) ∨ (∃ (k : Nat) (b : Bool) (d d' : D), is[k]? = some j ∧ ios[k]? = some d' ∧ c1.Γ[j]? = some (.mt b d) ∧ s = .mt b d') ∨ (∃ b d, j ∈ fz ∧ c1.Γ[j]? = some (.mt b d) ∧ s = .dat d) := fun {j s} h => by
    rcases freezeA_get h with ⟨h1, n1⟩ | ⟨b, d, m, h1, e⟩
    · rcases putA_get hn hl hm h1 with ⟨n2, h2⟩ | ⟨k, b, d, d', z1, z2, z3, z4⟩
      · exact .inl ⟨n2, h2, n1⟩
      · exact .inr (.inl ⟨k, b, d, d', z1, z2, z3, z4⟩)
    · rcases putA_get hn hl hm h1 with ⟨n2, h2⟩ | ⟨k, b', d1, d', z1, z2, z3, z4⟩
      · exact .inr (.inr ⟨b, d, m, h2, e⟩)
      · exact absurd (List.mem_of_getElem? z1) (hfz j m).1
  have isM' : ∀ {j : Nat}, IsM (freezeA (putA c1.Γ is ios) fz) j → IsM c1.Γ j := fun {j} h => by
    obtain ⟨b, d, h⟩ := h
    rcases h with h | h
    · rcases sl h with ⟨_, z, _⟩ | ⟨k, b', d1, d2, _, _, z, _⟩ | ⟨b', d', _, z, _⟩
      · exact ⟨b, d, .inl z⟩
      · exact ⟨b', d1, .inl z⟩
      · exact ⟨b', d', .inl z⟩
    · rcases sl h with ⟨_, z, _⟩ | ⟨k, b', d1, d2, _, _, z, _⟩ | ⟨b', d', _, z, _⟩
      · exact ⟨b, d, .inr z⟩
      · exact ⟨b', d1, .inl z⟩
      · exact ⟨b', d', .inl z⟩
  refine ⟨⟨?_, le, fun a h => th a (R1.ent a h), fun j d g => ?_, fun j b d g => ?_, fun i j a h1 h2 => R1.dist i j a (isM' h1) (isM' h2)⟩, ⟨S1.ent, S1.w.trans w, fun a o h n gd => ?_, fun a h => th a (S1.th a h), nw, fun a h => ?_, fun a h => ?_, fun j b d g => ?_, fun j d g => ?_⟩⟩
  · show (freezeA (putA c1.Γ is ios) fz).length = c1.σ.length
    rw [freezeA_len, putA_len]; exact R1.len
  · rcases sl g with ⟨_, z, _⟩ | ⟨k, b', d1, d2, _, _, _, z⟩ | ⟨b', d', m, z, e⟩
    · obtain ⟨v, e1, e2⟩ := R1.dat j d z
      exact ⟨v, e1, e2.mono w⟩
    · cases z
    · cases e
      obtain ⟨_, b2, d2, a, e1, e2, e3⟩ := hfz j m
      rw [z] at e1
      cases e1
      exact ⟨_, e2, e3⟩
  · have old : (c1.Γ[j]? = some (.mt b d) ∨ c1.Γ[j]? = some (.lck b d)) → j ∉ is → (j ∈ fz → ∀ b' d', c1.Γ[j]? ≠ some (.mt b' d')) → ∃ a, c1.σ[j]? = some (some (.ref a)) ∧ W' a = none ∧ MutAt K W' H' a d ∧ (b = true → c1.E a = none) := fun g nis nfz => by
      obtain ⟨a, e1, e2, e3, e4⟩ := R1.am j b d g
      have mj : IsM c1.Γ j := ⟨b, d, g⟩
      have nA : a ∉ A := fun ha => by
        obtain ⟨i, hi, e⟩ := C.mem ha
        obtain ⟨b', d', g'⟩ := isMt_iff (hm i hi)
        exact nis (R1.dist j i a mj ⟨b', d', .inl g'⟩ e1 e ▸ hi)
      have wn : W' a = none := nf a ⟨j, mj, e1⟩ nA fun i hi e => by
        obtain ⟨_, b', d', a', g', _⟩ := hfz i hi
        have q := R1.dist j i a mj ⟨b', d', .inl g'⟩ e1 e
        subst q
        exact nfz hi b' d' g'
      exact ⟨a, e1, wn, e3.mono w fun o z => fr a o z nA (.inl ⟨j, mj, e1⟩) (.inl wn), e4⟩
    rcases g with g | g
    · rcases sl g with ⟨n, z, y⟩ | ⟨k, b', d1, d2, z1, z2, z3, z4⟩ | ⟨b', d', m, z, e⟩
      · exact old (.inl z) n fun hj b' d' e => by
          rw [z] at e
          cases e
          exact y hj _ _ rfl
      · cases z4
        obtain ⟨a, q1, q2⟩ := C.get z1
        obtain ⟨a', e1, _, _, e4⟩ := R1.mt j b d1 z3
        rw [q2] at e1
        cases e1
        obtain ⟨y1, y2⟩ := io.get q1 z2
        exact ⟨a, q2, y1, y2, e4⟩
      · cases e
    · rcases sl g with ⟨n, z, y⟩ | ⟨k, b', d1, d2, z1, z2, z3, z4⟩ | ⟨b', d', m, z, e⟩
      · exact old (.inr z) n fun hj b' d' e => by rw [z] at e; cases e
      · cases z4
      · cases e
  · have h1 : c1.H a = some o := S1.fr a o h n gd
    refine fr a o h1 (fun ha => ?_) (.inr h) ?_
    · rcases S1.mu a (muA a ha) with z | z
      · exact n z
      · rw [h] at z; cases z
    · rcases gd with gd | gd
      · by_cases q : W' a = none
        · exact .inl q
        · rcases nw a q with z | z | z | ⟨ys, z⟩
          · exact absurd gd z
          · rw [h] at z; cases z
          · exact absurd z n
          · rw [h] at z; cases z; exact .inr rfl
      · exact .inr gd
  · obtain ⟨j, b, d, g, e⟩ := h
    have m : ∃ b d, c1.Γ[j]? = some (.mt b d) := by
      rcases sl g with ⟨_, z, _⟩ | ⟨k, b', d1, d2, _, _, z, _⟩ | ⟨b', d', _, z, _⟩
      · exact ⟨_, _, z⟩
      · exact ⟨_, _, z⟩
      · exact ⟨_, _, z⟩
    obtain ⟨b', d', z⟩ := m
    exact S1.mu a ⟨j, b', d', z, e⟩
  · obtain ⟨j, g, e⟩ := h
    exact S1.ad a ⟨j, isM' g, e⟩
  · rcases sl g with ⟨_, z, _⟩ | ⟨k, b', d1, d2, _, _, _, z⟩ | ⟨b', d', _, _, z⟩
    · exact S1.lk j b d z
    · cases z
    · cases z
  · rcases sl g with ⟨_, z, _⟩ | ⟨k, b', d1, d2, _, _, z, e⟩ | ⟨b', d', _, _, z⟩
    · exact S1.io j d z
    · cases e
      exact S1.io j d1 z
    · cases z

theorem scal_dr {W W' : Hp} {v : V} {d : D} (h : Dr K W v d) (s : scal d = true) : Dr K W' v d := by
  cases h with
  | non => exact .non
  | bl b => exact .bl b
  | int i => exact .int i
  | str x => exact .str x
  | _ => simp [scal] at s
theorem scalA_dr {W W' : Hp} : ∀ {vs : List V} {ds : List D}, DrA K W vs ds → ds.all scal = true → DrA K W' vs ds
  | _, _, .nil, _ => .nil
  | _, _, .cons h r, s => by
    simp only [List.all_cons, Bool.and_eq_true] at s
    exact .cons (scal_dr h s.1) (scalA_dr r s.2)
theorem flat_mut {W W' H : Hp} {a : Addr} {d : D} (h : MutAt K W H a d) (s : flat d = true) : MutAt K W' H a d := by
  cases h with
  | lst e r => exact .lst e (scalA_dr r s)
  | dK e r => simp [flat, scal] at s
  | dT _ e r => simp [flat, scal] at s
  | obj e r => simp [flat, scal] at s
theorem flat_io {W W' H : Hp} (hw : ∀ a, W a = none → W' a = none) : ∀ {as : List Addr} {ds : List D}, IoR K W H as ds → ds.all flat = true → IoR K W' H as ds
  | _, _, .nil, _ => .nil
  | _, _, .cons h1 h2 r, s => by
    simp only [List.all_cons, Bool.and_eq_true] at s
    exact .cons (hw _ h1) (flat_mut h2 s.1) (flat_io hw r s.2)
theorem ioIx_len : ∀ {bs : List Bool} {ls : List Vl} {is : List Nat}, ioIx bs ls = some is → bs.length = ls.length
  | [], [], _, _ => rfl
  | [], _ :: _, _, e => by simp [ioIx] at e
  | true :: _, [], _, e => by simp [ioIx] at e
  | false :: _, [], _, e => by simp [ioIx] at e
  | false :: bs, l :: ls, is, e => by
    have e' : ioIx bs ls = some is := by unfold ioIx at e; exact e
    simp [ioIx_len e']
  | true :: bs, .dat _ :: ls, is, e => by simp [ioIx] at e
  | true :: bs, .new _ :: ls, is, e => by simp [ioIx] at e
  | true :: bs, .ref i :: ls, is, e => by
    unfold ioIx at e
    cases q : ioIx bs ls with
    | none => rw [q] at e; cases e
    | some is' => simp [ioIx_len q]
theorem VRelA.len {c0 : Cf} : ∀ {vs : List V} {ls : List Vl}, VRelA K c0 c vs ls → vs.length = ls.length
  | _, _, .nil => rfl
  | _, _, .cons _ r _ => by simp [r.len]
/-- the arguments over a world that holds what is lent -/
theorem argR_of {W0 : Hp} (R : Rel K c1) (x : Ex c1.W W0) : ∀ {bs : List Bool} {vs : List V} {ls : List Vl} {ds : List D} {is : List Nat}, VRelA K c c1 vs ls → resA c1.Γ ls = some ds → ioIx bs ls = some is → (∀ i ∈ is, isMt c1.Γ i = true) →
    (∀ a, LP c1.Γ bs vs ls a → W0 a = c1.H a) → (∀ i ∈ is, ∀ a, c1.σ[i]? = some (some (.ref a)) → W0 a = none) → ArgR K W0 c1.H bs vs ds
  | [], _, _, ds, is, .nil, e, _, _, _, _ => by
    simp only [resA] at e
    cases e
    exact .nil
  | [], _, _, _, is, .cons _ _ _, _, e, _, _, _ => by simp [ioIx] at e
  | true :: bs, _, _, _, is, .nil, _, e, _, _, _ => by simp [ioIx] at e
  | false :: bs, _, _, _, is, .nil, _, e, _, _, _ => by simp [ioIx] at e
  | b :: bs, _, _, ds, is, .cons (v := v) (vs := vs) (l := l) (ls := ls) h r _, e, ei, hm, hP, hI => by
    unfold resA at e
    cases e1 : res c1.Γ l with
    | none => rw [e1] at e; cases e
    | some d =>
      cases e2 : resA c1.Γ ls with
      | none => rw [e1, e2] at e; cases e
      | some ds' =>
        rw [e1, e2] at e
        cases e
        cases b with
        | false =>
          have ei' : ioIx bs ls = some is := by unfold ioIx at ei; exact ei
          refine .dat ?_ (argR_of R x r e2 ei' hm (fun a ha => hP a (.tl ha)) hI)
          have mk : ∀ {a : Addr} {d : D}, MutAt K c1.W c1.H a d → W0 a = c1.H a → Dr K W0 (.ref a) d := fun {a d} m z => by
            obtain ⟨o, ho, hD⟩ := m.there
            exact hD W0 (z.trans ho) x
          cases h with
          | dat q => cases e1; exact q.mono x
          | new _ _ _ q => cases e1; exact mk q (hP _ .new)
          | @ref v i hq =>
            simp only [res] at e1
            cases g : c1.Γ[i]? with
            | none => rw [g] at e1; cases e1
            | some s =>
              rw [g] at e1
              cases s with
              | no => cases e1
              | dat d' =>
                cases e1
                obtain ⟨v', z1, z2⟩ := R.dat _ _ g
                rw [hq] at z1
                cases z1
                exact z2.mono x
              | mt b' d' =>
                cases e1
                obtain ⟨a, z1, _, z2, _⟩ := R.mt _ _ _ g
                rw [hq] at z1
                cases z1
                exact mk z2 (hP a (.ref ⟨_, _, .inl g⟩))
              | lck b' d' =>
                cases e1
                obtain ⟨a, z1, _, z2, _⟩ := R.lk _ _ _ g
                rw [hq] at z1
                cases z1
                exact mk z2 (hP a (.ref ⟨_, _, .inr g⟩))
        | true =>
          cases h with
          | dat _ => simp [ioIx] at ei
          | new _ _ _ _ => simp [ioIx] at ei
          | @ref v i hq =>
            unfold ioIx at ei
            cases q : ioIx bs ls with
            | none => rw [q] at ei; cases ei
            | some is' =>
              rw [q] at ei
              cases ei
              obtain ⟨b', d', g⟩ := isMt_iff (hm i List.mem_cons_self)
              obtain ⟨a, z1, _, z2, _⟩ := R.mt _ _ _ g
              rw [hq] at z1
              cases z1
              simp only [res, g] at e1
              cases e1
              exact .io (hI i List.mem_cons_self a hq) (z2.mono x fun _ z => z) (argR_of R x r e2 q (fun j hj => hm j (List.mem_cons_of_mem _ hj)) (fun a ha => hP a (.tl ha)) fun j hj => hI j (List.mem_cons_of_mem _ hj))
open Classical in
/-- a call, its arguments given -/
theorem call_core {σ : St} {H H1 : Hp} {Q : VK} {f : Fn} {E1 W W1 : Hp} {Γ Γ1 : List Slot} {vs : List V} {ls : List Vl} (R1 : Rel K ⟨E1, W1, Γ1, σ, H1⟩) (S1 : Stp ⟨E1, W, Γ, σ, H⟩ ⟨E1, W1, Γ1, σ, H1⟩) (V1 : VRelA K ⟨E1, W, Γ, σ, H⟩ ⟨E1, W1, Γ1, σ, H1⟩ vs ls)
    (h1 : PoR K Wx ⟨E1, W, Γ, σ, H⟩ (evCall f ls Γ1) fun l c' => ∀ v, VRel K ⟨E1, W, Γ, σ, H⟩ c' v l → Q v c'.H) : spF K f vs H1 Q (WE Wx σ) := by
  unfold evCall at h1
  cases er : resA Γ1 ls with
  | none => rw [er] at h1; exact h1.elim
  | some ds =>
    cases ei : ioIx f.io ls with
    | none => rw [er, ei] at h1; exact h1.elim
    | some is =>
      rw [er, ei] at h1
      dsimp only at h1
      split at h1
      rotate_left
      · exact h1.elim
      rename_i cond
      obtain ⟨hn, hmA, hlA⟩ := cond
      have hm : ∀ i ∈ is, isMt Γ1 i = true := fun i hi => List.all_eq_true.mp hmA i hi
      have hl : ∀ i ∈ lent Γ1 f.io ls, i ∉ is := fun i hi => by
        have := List.all_eq_true.mp hlA i hi
        simpa using this
      have C := ioC_of R1 V1 ei hm
      let W0 : Hp := fun a => if LP Γ1 f.io vs ls a then H1 a else W1 a
      have hP : ∀ a, LP Γ1 f.io vs ls a → W0 a = H1 a := fun a ha => if_pos ha
      have hN : ∀ a, ¬ LP Γ1 f.io vs ls a → W0 a = W1 a := fun a ha => if_neg ha
      have x0 : Ex W1 W0 := fun a o e => by
        by_cases q : LP Γ1 f.io vs ls a
        · have := (q.what R1 V1).1
          rw [show W1 a = none from this] at e; cases e
        · rw [hN a q]; exact e
      have l0 : Le W0 H1 := fun a o e => by
        by_cases q : LP Γ1 f.io vs ls a
        · rw [hP a q] at e; exact .inl e
        · rw [hN a q] at e; exact R1.le a o e
      have nLP : ∀ i, IsM Γ1 i → i ∉ lent Γ1 f.io ls → ∀ a, σ[i]? = some (some (V.ref a)) → ¬ LP Γ1 f.io vs ls a := fun i mi ni a e q => by
        rcases (q.what R1 V1).2.2 with ⟨_, z⟩ | ⟨j, hj, mj, ej⟩
        · exact z ⟨i, mi, e⟩
        · exact ni (R1.dist i j a mi mj e ej ▸ hj)
      have hI : ∀ i ∈ is, ∀ a, σ[i]? = some (some (V.ref a)) → W0 a = none := fun i hi a e => by
        obtain ⟨b, d, g⟩ := isMt_iff (hm i hi)
        have mi : IsM Γ1 i := ⟨b, d, .inl g⟩
        rw [hN a (nLP i mi (fun z => hl i z hi) a e)]
        exact (R1.ad_ne ⟨i, mi, e⟩).2
      have aR : ArgR K W0 H1 f.io vs ds := argR_of R1 x0 V1 er ei hm hP hI
      have bl : f.io.length = vs.length := (ioIx_len ei).trans V1.len.symm
      refine ⟨W0, ds, l0, aR, C.nodup R1 hn hm, ?_⟩
      have nw0 : ∀ a, W0 a ≠ none → (W a ≠ none ∨ H a = none ∨ Cf.mu ⟨E1, W, Γ, σ, H⟩ a ∨ IsT H a) ∨ ∃ i ∈ lent Γ1 f.io ls, σ[i]? = some (some (V.ref a)) := fun a h => by
        by_cases q : LP Γ1 f.io vs ls a
        · rcases (q.what R1 V1).2.2 with ⟨z, _⟩ | ⟨j, hj, mj, ej⟩
          · exact .inl (.inr (.inl z))
          · exact .inr ⟨j, hj, ej⟩
        · rw [hN a q] at h
          exact .inl (S1.nw a h)
      -- what is new behind the call was new, or a tuple
      have bk : ∀ a, H1 a = none ∨ IsT H1 a → W a ≠ none ∨ H a = none ∨ Cf.mu ⟨E1, W, Γ, σ, H⟩ a ∨ IsT H a := fun a z => by
        rcases z with z | ⟨ys, z⟩
        · exact .inr (.inl (S1.back a z))
        · cases e : H a with
          | none => exact .inr (.inl rfl)
          | some o =>
            by_cases hm : Cf.mu ⟨E1, W, Γ, σ, H⟩ a
            · exact .inr (.inr (.inl hm))
            · cases ew : W a with
              | some _ => exact .inl nofun
              | none =>
                have z' : H1 a = some o := S1.fr a o e hm (.inl ew)
                rw [z'] at z
                cases z
                exact .inr (.inr (.inr ⟨ys, e⟩))
      have lentMu : ∀ a, (lent Γ1 f.io ls).all (isMt Γ1) = true → (∃ i ∈ lent Γ1 f.io ls, σ[i]? = some (some (V.ref a))) → Cf.mu ⟨E1, W, Γ, σ, H⟩ a ∨ H a = none := fun a hall ⟨i, hi, e⟩ => by
        obtain ⟨b, d, g⟩ := isMt_iff (List.all_eq_true.mp hall i hi)
        exact S1.mu a ⟨i, b, d, g, e⟩
      have nf0 : ∀ (W' : Hp) (hw : ∀ a, W' a ≠ none → W0 a ≠ none ∨ H1 a = none ∨ IsT H1 a) (fz : List Nat), (∀ i ∈ lent Γ1 f.io ls, i ∈ fz) → ∀ a, Cf.ad ⟨E1, W1, Γ1, σ, H1⟩ a → a ∉ ioA f.io vs → (∀ i ∈ fz, σ[i]? ≠ some (some (V.ref a))) → W' a = none := fun W' hw fz hfz a had hA hz => by
        obtain ⟨i, mi, e⟩ := id had
        by_cases q : W' a = none
        · exact q
        · rcases hw a q with z | z | z
          · exact absurd ((hN a (nLP i mi (fun y => hz i (hfz i y) e) a e)).trans (R1.ad_ne had).2) z
          · exact absurd z (R1.ad_ne had).1
          · obtain ⟨bb, dd, gg⟩ := mi
            obtain ⟨a', q1, _, q3, _⟩ := R1.am i bb dd gg
            have e' : σ[i]? = some (some (V.ref a)) := e
            have q1' : σ[i]? = some (some (V.ref a')) := q1
            rw [e'] at q1'
            cases q1'
            exact absurd z q3.notT
      have frC : ∀ {W' H' : Hp}, FSt W0 H1 (ioA f.io vs) W' H' → ∀ a o, H1 a = some o → a ∉ ioA f.io vs → (Cf.ad ⟨E1, W1, Γ1, σ, H1⟩ a ∨ H a = some o) → (W' a = none ∨ lkb o = false) → H' a = some o := fun {W' H'} F a o h1 h2 _ h4 => by
        refine F.fr a o h1 h2 ?_
        rcases h4 with h4 | h4
        · left
          cases q : W0 a with
          | none => rfl
          | some u => rw [F.w a u q] at h4; cases h4
        · exact .inr h4
      cases hf : f.F ds with
      | stuck => rw [hf] at h1; exact h1.elim
      | exn x ios =>
        rw [hf] at h1
        dsimp only at h1
        split at h1
        rotate_left
        · exact h1.elim
        rename_i cd
        obtain ⟨hlen, hemp⟩ := cd
        have hemp' : lent Γ1 f.io ls = [] := by simpa using hemp
        intro cls d W' H' F I X
        have nw' : ∀ a, W' a ≠ none → W a ≠ none ∨ H a = none ∨ Cf.mu ⟨E1, W, Γ, σ, H⟩ a ∨ IsT H a := fun a h => by
          rcases F.nw a h with z | z
          · rcases nw0 a z with y | ⟨i, hi, _⟩
            · exact y
            · rw [hemp'] at hi; simp at hi
          · exact bk a z
        obtain ⟨R2, S2⟩ := Rel.called (fz := []) R1 S1 hn hlen hm C (x0.trans F.w) F.le (frC F) F.th I (nf0 W' F.nw [] fun i hi => by rw [hemp'] at hi; exact hi) (fun i hi => by simp at hi) nw'
        exact h1 cls d W' H' R2 S2 X
      | ok o ios =>
        rw [hf] at h1
        dsimp only at h1
        split at h1
        rotate_left
        · exact h1.elim
        rename_i hlen
        intro v W' H' F I O
        have out : ∀ {W2 : Hp} {Γ2 : List Slot}, Rel K ⟨E1, W2, Γ2, σ, H'⟩ → (∀ a, Cf.ad ⟨E1, W2, Γ2, σ, H'⟩ a → Cf.ad ⟨E1, W1, Γ1, σ, H1⟩ a) → ORel K H1 W2 H' v o → VRel K ⟨E1, W, Γ, σ, H⟩ ⟨E1, W2, Γ2, σ, H'⟩ v o.vl := fun {W2 Γ2} R2 hA O => by
          cases O with
          | dat q => exact .dat q
          | new y1 y2 y3 => exact .new (S1.back _ y1) y2 (fun z => (R1.ad_ne (hA _ z)).1 y1) y3
        have adP : ∀ fz, ∀ a, Cf.ad ⟨E1, W', freezeA (putA Γ1 is ios) fz, σ, H'⟩ a → Cf.ad ⟨E1, W1, Γ1, σ, H1⟩ a := fun fz a ⟨j, ⟨b, d, g⟩, e⟩ => by
          have back : ∀ {s : Slot}, (freezeA (putA Γ1 is ios) fz)[j]? = some s → (∃ b d, s = .mt b d ∨ s = .lck b d) → IsM Γ1 j := fun {s} h hs => by
            rcases freezeA_get h with ⟨h1, _⟩ | ⟨b, d, _, _, e⟩
            · rcases putA_get hn hlen hm h1 with ⟨_, h2⟩ | ⟨k, b, d, d', _, _, z3, _⟩
              · obtain ⟨b, d, hs⟩ := hs
                rcases hs with hs | hs
                · exact ⟨b, d, .inl (hs ▸ h2)⟩
                · exact ⟨b, d, .inr (hs ▸ h2)⟩
              · exact ⟨b, d, .inl z3⟩
            · subst e
              obtain ⟨b, d, hs⟩ := hs
              rcases hs with hs | hs <;> cases hs
          rcases g with g | g
          · exact ⟨j, back g ⟨b, d, .inl rfl⟩, e⟩
          · exact ⟨j, back g ⟨b, d, .inr rfl⟩, e⟩
        split at h1
        · rename_i cd
          by_cases hemp : lent Γ1 f.io ls = []
          · have nw' : ∀ a, W' a ≠ none → W a ≠ none ∨ H a = none ∨ Cf.mu ⟨E1, W, Γ, σ, H⟩ a ∨ IsT H a := fun a h => by
              rcases F.nw a h with z | z
              · rcases nw0 a z with y | ⟨i, hi, _⟩
                · exact y
                · rw [hemp] at hi; simp at hi
              · exact bk a z
            obtain ⟨R2, S2⟩ := Rel.called (fz := []) R1 S1 hn hlen hm C (x0.trans F.w) F.le (frC F) F.th I (nf0 W' F.nw [] fun i hi => by rw [hemp] at hi; exact hi) (fun i hi => by simp at hi) nw'
            exact h1 W' H' R2 S2 v (out R2 (adP []) O)
          · have cd' : o.scal = true ∧ ios.all flat = true ∧ (lent Γ1 f.io ls).all (noDct Γ1) = true := by
              rcases cd with z | z
              · exact absurd (by simpa using z) hemp
              · exact z
            have nA : ∀ a, W1 a ≠ none → a ∉ ioA f.io vs := fun a h ha => by
              obtain ⟨i, hi, e⟩ := C.mem ha
              obtain ⟨b, d, g⟩ := isMt_iff (hm i hi)
              exact h (R1.ad_ne ⟨i, ⟨b, d, .inl g⟩, e⟩).2
            have le' : Le W1 H' := (x0.trans F.w).le F.le
            have fr' : ∀ a o, H1 a = some o → a ∉ ioA f.io vs → (Cf.ad ⟨E1, W1, Γ1, σ, H1⟩ a ∨ H a = some o) → (W1 a = none ∨ lkb o = false) → H' a = some o := fun a o h1 h2 h3 h4 => by
              refine F.fr a o h1 h2 ?_
              rcases h4 with h4 | h4
              · by_cases q : LP Γ1 f.io vs ls a
                · rcases (q.what R1 V1).2.2 with ⟨z, z'⟩ | ⟨j, hj, mj, ej⟩
                  · rcases h3 with h3 | h3
                    · exact absurd h3 z'
                    · rw [show H a = none from z] at h3; cases h3
                  · right
                    have nd := List.all_eq_true.mp cd'.2.2 j hj
                    obtain ⟨bb, dd, gg⟩ := mj
                    obtain ⟨a', q1, _, q3, _⟩ := R1.am j bb dd gg
                    have ej' : σ[j]? = some (some (V.ref a)) := ej
                    have q1' : σ[j]? = some (some (V.ref a')) := q1
                    rw [ej'] at q1'
                    cases q1'
                    cases q3 with
                    | lst w _ => rw [show H1 a = _ from w] at h1; cases h1; rfl
                    | obj w _ => rw [show H1 a = _ from w] at h1; cases h1; rfl
                    | dK w _ => exfalso; simp only [noDct] at nd; rcases gg with gg | gg <;> rw [show Γ1[j]? = _ from gg] at nd <;> cases nd
                    | dT _ w _ => exfalso; simp only [noDct] at nd; rcases gg with gg | gg <;> rw [show Γ1[j]? = _ from gg] at nd <;> cases nd
                · exact .inl ((hN a q).trans h4)
              · exact .inr h4
            have hw1 : ∀ a, W' a = none → W1 a = none := fun a h => by
              cases q : W1 a with
              | none => rfl
              | some o =>
                rw [(x0.trans F.w) a o q] at h; cases h
            obtain ⟨R2, S2⟩ := Rel.called (fz := []) R1 S1 hn hlen hm C (Ex.refl _) le' fr' F.th (flat_io hw1 I cd'.2.1) (fun a ha _ _ => (R1.ad_ne ha).2) (fun i hi => by simp at hi) S1.nw
            refine h1 W1 H' R2 S2 v ?_
            cases O with
            | dat q => exact .dat (scal_dr q cd'.1)
            | new _ _ _ => simp [Ou.scal] at cd'
        · split at h1
          rotate_left
          · exact h1.elim
          rename_i hall
          have nw' : ∀ a, W' a ≠ none → W a ≠ none ∨ H a = none ∨ Cf.mu ⟨E1, W, Γ, σ, H⟩ a ∨ IsT H a := fun a h => by
            rcases F.nw a h with z | z
            · rcases nw0 a z with y | y
              · exact y
              · rcases lentMu a hall y with w | w
                · exact .inr (.inr (.inl w))
                · exact .inr (.inl w)
            · exact bk a z
          obtain ⟨R2, S2⟩ := Rel.called (fz := lent Γ1 f.io ls) R1 S1 hn hlen hm C (x0.trans F.w) F.le (frC F) F.th I (nf0 W' F.nw _ fun i hi => hi) (fun i hi => by
            obtain ⟨b, d, g⟩ := isMt_iff (List.all_eq_true.mp hall i hi)
            obtain ⟨a, e1, _, e3, _⟩ := R1.mt i b d g
            refine ⟨hl i hi, b, d, a, g, e1, ?_⟩
            obtain ⟨ob, ho, hD⟩ := e3.there
            exact (hD W0 ((hP a (LP.of_lent R1 V1 bl hi e1)).trans ho) x0).mono F.w) nw'
          exact h1 W' H' R2 S2 v (out R2 (adP _) O)
theorem den_call {σ : St} {H : Hp} {Q : VK} {f : Fn} {as : Ta} (h : den K Wx (.call f as) σ H Q) : denA K Wx as σ H fun vs H2 => spF K f vs H2 Q (WE Wx σ) := by
  obtain ⟨E, W, Γ, R, h⟩ := h
  simp only [ev] at h
  refine ⟨E, W, Γ, R, h.bind0.imp fun ls c1 R1 S1 es h1 vs V1 => ?_⟩
  obtain ⟨E1, W1, Γ1, σ1, H1⟩ := c1
  cases es
  obtain rfl : E1 = E := S1.ent
  exact call_core R1 S1 V1 h1
theorem den_ess {σ : St} {H : Hp} {Q : VK} {t : Tm} (h : den K Wx (.ess t) σ H Q) : den K Wx t σ H Q := by
  obtain ⟨E, W, Γ, R, h⟩ := h
  simp only [ev] at h
  refine ⟨E, W, Γ, R, h.bind0.imp fun l c1 R1 S1 es h1 v V1 => ?_⟩
  obtain ⟨E1, W1, Γ1, σ1, H1⟩ := c1
  cases es
  obtain rfl : E1 = E := S1.ent
  dsimp only at h1
  cases ee : esc l Γ1 with
  | stuck => rw [ee] at h1; exact h1.elim
  | exn x Γ2 => exact (esc_ne ee).elim
  | ok d Γ2 =>
    rw [ee] at h1
    simp only [Rs.bind] at h1
    obtain ⟨W2, R2, S2, d2, x2, y2, m2⟩ := R1.esc S1 V1 ee
    exact h1 W2 H1 R2 S2 v (.dat d2)
theorem denA_mono0 {as : Ta} {σ : St} {H : Hp} {Q Q' : List V → Hp → Prop} (h : denA K Wx as σ H Q) (i : ∀ v H', Q v H' → Q' v H') : denA K Wx as σ H Q' := by
  obtain ⟨E, W, Γ, R, h⟩ := h
  exact ⟨E, W, Γ, R, h.imp fun l c' R' S' e' z v V => i _ _ (z v V)⟩
/-- a method of an object: it is looked at first -/
theorem den_meth {σ : St} {H : Hp} {Q : VK} {sel : D → Option Fn} {o : Tm} {as : Ta} (h : den K Wx (.meth sel o as) σ H Q) :
    den K Wx o σ H fun x H1 => ∃ W d f, Le W H1 ∧ Top K W H1 x d ∧ sel d = some f ∧ denA K Wx as σ H1 fun vs H2 => spF K f (x :: vs) H2 Q (WE Wx σ) := by
  obtain ⟨E, W, Γ, R, h⟩ := h
  simp only [ev] at h
  refine ⟨E, W, Γ, R, h.bind0.imp fun l c1 R1 S1 es h1 x V1 => ?_⟩
  obtain ⟨E1, W1, Γ1, σ1, H1⟩ := c1
  cases es
  obtain rfl : E1 = E := S1.ent
  dsimp only at h1
  cases er : res Γ1 l with
  | none => rw [er] at h1; exact h1.elim
  | some d =>
    rw [er, Option.bind_some] at h1
    cases hk : sel d with
    | none => rw [hk] at h1; exact h1.elim
    | some f =>
    rw [hk] at h1
    dsimp only at h1
    refine ⟨W1, d, f, R1.le, R1.top V1 er, hk, E1, W1, Γ1, R1, ?_⟩
    refine (PoR.later (PoR.bind0 h1) S1 rfl).imp fun ls c2 R2 S2 es h2 vs V2 => ?_
    obtain ⟨E2, W2, Γ2, σ2, H2⟩ := c2
    cases es
    obtain rfl : E2 = E1 := S2.ent
    refine call_core R2 (S1.trans S2) (.cons (V1.next S2 rfl) (V2.back S1.back) fun d d' e m => ?_) h2
    subst e
    cases V1 with
    | new _ _ _ ha => exact ha.ne (V2.fresh m)
/-- a read by a method: the object is looked at first -/
theorem den_rcv {σ : St} {H : Hp} {Q : VK} {k : D → Bool} {f : List D → Option Ou} {o : Tm} {as : Ta} (h : den K Wx (.rcv k f o as) σ H Q) :
    den K Wx o σ H fun x H1 => ∃ W d, Le W H1 ∧ Top K W H1 x d ∧ k d = true ∧ denA K Wx as σ H1 fun vs H2 => rP K f (x :: vs) H2 Q := by
  obtain ⟨E, W, Γ, R, h⟩ := h
  simp only [ev] at h
  refine ⟨E, W, Γ, R, h.bind0.imp fun l c1 R1 S1 es h1 x V1 => ?_⟩
  obtain ⟨E1, W1, Γ1, σ1, H1⟩ := c1
  cases es
  obtain rfl : E1 = E := S1.ent
  dsimp only at h1
  cases er : res Γ1 l with
  | none => rw [er] at h1; exact h1.elim
  | some d =>
    rw [er] at h1
    dsimp only at h1
    split at h1
    rotate_left
    · exact h1.elim
    rename_i hk
    refine ⟨W1, d, R1.le, R1.top V1 er, hk, E1, W1, Γ1, R1, ?_⟩
    refine (PoR.later (PoR.bind0 h1) S1 rfl).imp fun ls c2 R2 S2 es h2 vs V2 => ?_
    obtain ⟨E2, W2, Γ2, σ2, H2⟩ := c2
    cases es
    obtain rfl : E2 = E1 := S2.ent
    have V3 : VRelA K ⟨E2, W, Γ, σ, H⟩ ⟨E2, W2, Γ2, σ, H2⟩ (x :: vs) (l :: ls) := .cons (V1.next S2 rfl) (V2.back S1.back) fun d d' e m => by
      subst e
      cases V1 with
      | new _ _ _ ha => exact ha.ne (V2.fresh m)
    dsimp only at h2
    cases e : resA Γ2 (l :: ls) with
    | none => rw [e] at h2; exact h2.elim
    | some ds =>
      rw [e] at h2
      simp only at h2
      cases ef : f ds with
      | none => rw [ef] at h2; exact h2.elim
      | some o =>
        rw [ef] at h2
        refine ⟨W2, ds, o, R2.le, R2.topA V3 e, ef, fun v W' H' p q => ?_⟩
        obtain ⟨R3, S3⟩ := R2.pst p
        exact h2 W' H' R3 ((S1.trans S2).trans S3) v (q.vl (c := ⟨E2, W2, Γ2, σ, H2⟩) rfl rfl rfl rfl R2 (S1.trans S2).back)
end
end MP

end
-- MP6
section
/-! MP6: targets, iterators, comprehensions. -/
namespace MP
open PySem L2
theorem lockA_get : ∀ {L : List Nat} {Γ : List Slot} {j : Nat} {s : Slot}, (lockA L Γ)[j]? = some s → (Γ[j]? = some s ∧ (j ∈ L → ∀ b d, s ≠ .mt b d)) ∨ ∃ b d, j ∈ L ∧ Γ[j]? = some (.mt b d) ∧ s = .lck b d
  | [], Γ, j, s, h => .inl ⟨h, fun z => by simp at z⟩
  | i :: L, Γ, j, s, h => by
    have h' : (lockA L (lock1 i Γ))[j]? = some s := h
    rcases lockA_get h' with ⟨z, n⟩ | ⟨b, d, m, z, e⟩
    · unfold lock1 at z
      split at z
      · rename_i b d g
        rcases get_set z with ⟨e1, e2, _⟩ | ⟨n1, e1⟩
        · subst e1 e2
          exact .inr ⟨b, d, List.mem_cons_self, g, rfl⟩
        · exact .inl ⟨e1, fun hm => by
            rcases List.mem_cons.mp hm with y | y
            · exact absurd y n1
            · exact n y⟩
      · rename_i g
        refine .inl ⟨z, fun hm b d e => ?_⟩
        subst e
        rcases List.mem_cons.mp hm with y | y
        · subst y
          exact g b d z
        · exact n y b d rfl
    · unfold lock1 at z
      split at z
      · rcases get_set z with ⟨_, e2, _⟩ | ⟨n1, e1⟩
        · cases e2
        · exact .inr ⟨b, d, List.mem_cons_of_mem _ m, e1, e⟩
      · exact .inr ⟨b, d, List.mem_cons_of_mem _ m, z, e⟩
theorem unlockA_get : ∀ {L : List Nat} {Γ : List Slot} {j : Nat} {s : Slot}, (unlockA L Γ)[j]? = some s → (Γ[j]? = some s ∧ (j ∈ L → ∀ b d, s ≠ .lck b d)) ∨ ∃ b d, j ∈ L ∧ Γ[j]? = some (.lck b d) ∧ s = .mt b d
  | [], Γ, j, s, h => .inl ⟨h, fun z => by simp at z⟩
  | i :: L, Γ, j, s, h => by
    have h' : (unlockA L (unlock1 i Γ))[j]? = some s := h
    rcases unlockA_get h' with ⟨z, n⟩ | ⟨b, d, m, z, e⟩
    · unfold unlock1 at z
      split at z
      · rename_i b d g
        rcases get_set z with ⟨e1, e2, _⟩ | ⟨n1, e1⟩
        · subst e1 e2
          exact .inr ⟨b, d, List.mem_cons_self, g, rfl⟩
        · exact .inl ⟨e1, fun hm => by
            rcases List.mem_cons.mp hm with y | y
            · exact absurd y n1
            · exact n y⟩
      · rename_i g
        refine .inl ⟨z, fun hm b d e => ?_⟩
        subst e
        rcases List.mem_cons.mp hm with y | y
        · subst y
          exact g b d z
        · exact n y b d rfl
    · unfold unlock1 at z
      split at z
      · rcases get_set z with ⟨_, e2, _⟩ | ⟨n1, e1⟩
        · cases e2
        · exact .inr ⟨b, d, List.mem_cons_of_mem _ m, e1, e⟩
      · exact .inr ⟨b, d, List.mem_cons_of_mem _ m, z, e⟩
theorem lock1_len {Γ : List Slot} {i : Nat} : (lock1 i Γ).length = Γ.length := by
  unfold lock1
  split <;> simp
theorem lockA_len : ∀ {L : List Nat} {Γ : List Slot}, (lockA L Γ).length = Γ.length
  | [], Γ => rfl
  | i :: L, Γ => by
    show (lockA L (lock1 i Γ)).length = _
    rw [lockA_len, lock1_len]
theorem unlock1_len {Γ : List Slot} {i : Nat} : (unlock1 i Γ).length = Γ.length := by
  unfold unlock1
  split <;> simp
theorem unlockA_len : ∀ {L : List Nat} {Γ : List Slot}, (unlockA L Γ).length = Γ.length
  | [], Γ => rfl
  | i :: L, Γ => by
    show (unlockA L (unlock1 i Γ)).length = _
    rw [unlockA_len, unlock1_len]
theorem wipeG_len : ∀ {own : List Nat} {Γ : List Slot}, (wipeG own Γ).length = Γ.length
  | [], Γ => rfl
  | i :: L, Γ => by
    unfold wipeG
    rw [List.length_set, wipeG_len]
theorem keepG_len : ∀ {own : List Nat} {Γ0 Γ : List Slot}, (keepG own Γ0 Γ).length = Γ.length
  | [], Γ0, Γ => rfl
  | i :: L, Γ0, Γ => by
    unfold keepG
    rw [List.length_set, keepG_len]
theorem wipeG_get : ∀ {own : List Nat} {Γ : List Slot} {j : Nat} {s : Slot}, (wipeG own Γ)[j]? = some s → (j ∉ own ∧ Γ[j]? = some s) ∨ (j ∈ own ∧ s = .no)
  | [], Γ, j, s, h => .inl ⟨by simp, h⟩
  | v :: own, Γ, j, s, h => by
    unfold wipeG at h
    rcases get_set h with ⟨e1, e2, _⟩ | ⟨n, e⟩
    · subst e1 e2
      exact .inr ⟨List.mem_cons_self, rfl⟩
    · rcases wipeG_get e with ⟨z, y⟩ | ⟨z, y⟩
      · exact .inl ⟨by simp only [List.mem_cons, not_or]; exact ⟨n, z⟩, y⟩
      · exact .inr ⟨List.mem_cons_of_mem _ z, y⟩
theorem keepG_get : ∀ {own : List Nat} {Γ0 Γ : List Slot} {j : Nat} {s : Slot}, (keepG own Γ0 Γ)[j]? = some s → (j ∉ own ∧ Γ[j]? = some s) ∨ (j ∈ own ∧ s = Γ0[j]?.getD .no)
  | [], Γ0, Γ, j, s, h => .inl ⟨by simp, h⟩
  | v :: own, Γ0, Γ, j, s, h => by
    unfold keepG at h
    rcases get_set h with ⟨e1, e2, _⟩ | ⟨n, e⟩
    · subst e1 e2
      exact .inr ⟨List.mem_cons_self, rfl⟩
    · rcases keepG_get e with ⟨z, y⟩ | ⟨z, y⟩
      · exact .inl ⟨by simp only [List.mem_cons, not_or]; exact ⟨n, z⟩, y⟩
      · exact .inr ⟨List.mem_cons_of_mem _ z, y⟩
theorem locks_mt : ∀ {Γ : List Slot} {ls : List Vl} {i : Nat}, i ∈ locks Γ ls → ∃ b d, Γ[i]? = some (.mt b d)
  | Γ, [], i, h => by simp [locks] at h
  | Γ, .dat _ :: ls, i, h => locks_mt (ls := ls) h
  | Γ, .new _ :: ls, i, h => locks_mt (ls := ls) h
  | Γ, .ref j :: ls, i, h => by
    unfold locks at h
    split at h
    · rename_i b d g
      rcases List.mem_cons.mp h with z | z
      · subst z; exact ⟨b, d, g⟩
      · exact locks_mt z
    · exact locks_mt h
theorem wipe_ne {σ : St} {own : List Nat} {i : Nat} (h : i ∉ own) : (wipe σ own)[i]? = σ[i]? := wipe_out h

section
variable {K : PySem.W.Frag} {c : Cf}
theorem Rel.lockA {L : List Nat} (R : Rel K c) : Rel K ⟨c.E, c.W, MP.lockA L c.Γ, c.σ, c.H⟩ := by
  have im : ∀ {j : Nat}, IsM (MP.lockA L c.Γ) j → IsM c.Γ j := fun {j} h => by
    obtain ⟨b, d, h | h⟩ := h
    · rcases lockA_get h with ⟨z, _⟩ | ⟨b', d', _, z, _⟩
      · exact ⟨b, d, .inl z⟩
      · exact ⟨b', d', .inl z⟩
    · rcases lockA_get h with ⟨z, _⟩ | ⟨b', d', _, z, _⟩
      · exact ⟨b, d, .inr z⟩
      · exact ⟨b', d', .inl z⟩
  refine ⟨by rw [show (Cf.mk c.E c.W (MP.lockA L c.Γ) c.σ c.H).Γ = MP.lockA L c.Γ from rfl, lockA_len]; exact R.len, R.le, R.ent, fun j d g => ?_, fun j b d g => ?_, fun i j a h1 h2 => R.dist i j a (im h1) (im h2)⟩
  · rcases lockA_get g with ⟨z, _⟩ | ⟨b', d', _, _, z⟩
    · exact R.dat j d z
    · cases z
  · rcases g with g | g
    · rcases lockA_get g with ⟨z, _⟩ | ⟨b', d', _, z, e⟩
      · exact R.am j b d (.inl z)
      · cases e
    · rcases lockA_get g with ⟨z, _⟩ | ⟨b', d', _, z, e⟩
      · exact R.am j b d (.inr z)
      · cases e; exact R.am j b d (.inl z)
theorem Rel.wipe {own : List Nat} (R : Rel K c) : Rel K ⟨c.E, c.W, wipeG own c.Γ, L2.wipe c.σ own, c.H⟩ := by
  have im : ∀ {j : Nat}, IsM (wipeG own c.Γ) j → j ∉ own ∧ IsM c.Γ j := fun {j} h => by
    obtain ⟨b, d, h | h⟩ := h
    · rcases wipeG_get h with ⟨n, z⟩ | ⟨_, z⟩
      · exact ⟨n, b, d, .inl z⟩
      · cases z
    · rcases wipeG_get h with ⟨n, z⟩ | ⟨_, z⟩
      · exact ⟨n, b, d, .inr z⟩
      · cases z
  refine ⟨by show (wipeG own c.Γ).length = (L2.wipe c.σ own).length; rw [wipeG_len, wipe_length]; exact R.len, R.le, R.ent, fun j d g => ?_, fun j b d g => ?_, fun i j a h1 h2 e1 e2 => ?_⟩
  · rcases wipeG_get g with ⟨n, z⟩ | ⟨_, z⟩
    · obtain ⟨v, e1, e2⟩ := R.dat j d z
      exact ⟨v, (wipe_ne n).trans e1, e2⟩
    · cases z
  · obtain ⟨n, _⟩ := im ⟨b, d, g⟩
    have g' : c.Γ[j]? = some (.mt b d) ∨ c.Γ[j]? = some (.lck b d) := by
      rcases g with g | g
      · rcases wipeG_get g with ⟨_, z⟩ | ⟨_, z⟩
        · exact .inl z
        · cases z
      · rcases wipeG_get g with ⟨_, z⟩ | ⟨_, z⟩
        · exact .inr z
        · cases z
    obtain ⟨a, e1, e2⟩ := R.am j b d g'
    exact ⟨a, (wipe_ne n).trans e1, e2⟩
  · obtain ⟨n1, m1⟩ := im h1
    obtain ⟨n2, m2⟩ := im h2
    have e1' : (L2.wipe c.σ own)[i]? = some (some (V.ref a)) := e1
    have e2' : (L2.wipe c.σ own)[j]? = some (some (V.ref a)) := e2
    rw [wipe_ne n1] at e1'
    rw [wipe_ne n2] at e2'
    exact R.dist i j a m1 m2 e1' e2'
theorem Stp.wipe {own : List Nat} : Stp c ⟨c.E, c.W, wipeG own c.Γ, L2.wipe c.σ own, c.H⟩ := by
  refine ⟨rfl, Ex.refl _, fun _ _ h _ _ => h, fun _ h => h, fun _ h => .inl h, fun a h => ?_, fun a h => ?_, fun i b d g => ?_, fun i d g => ?_⟩
  · obtain ⟨j, b, d, g, e⟩ := h
    rcases wipeG_get g with ⟨n, z⟩ | ⟨_, z⟩
    · exact .inl ⟨j, b, d, z, (wipe_ne n).symm.trans e⟩
    · cases z
  · obtain ⟨j, ⟨b, d, g⟩, e⟩ := h
    rcases g with g | g
    · rcases wipeG_get g with ⟨n, z⟩ | ⟨_, z⟩
      · exact .inl ⟨j, ⟨b, d, .inl z⟩, (wipe_ne n).symm.trans e⟩
      · cases z
    · rcases wipeG_get g with ⟨n, z⟩ | ⟨_, z⟩
      · exact .inl ⟨j, ⟨b, d, .inr z⟩, (wipe_ne n).symm.trans e⟩
      · cases z
  · rcases wipeG_get g with ⟨n, z⟩ | ⟨_, z⟩
    · exact ⟨⟨d, z⟩, wipe_ne n⟩
    · cases z
  · rcases wipeG_get g with ⟨n, z⟩ | ⟨_, z⟩
    · exact ⟨⟨d, z⟩, wipe_ne n⟩
    · cases z
end

/-! ### targets -/
def slots : Tg → List Nat
  | .nm i => [i]
  | .nil => []
  | .cons a r => slots a ++ slots r
def same (L : List Nat) (σ σ' : St) : Prop := σ'.length = σ.length ∧ ∀ j, j ∉ L → σ'[j]? = σ[j]?
def denG (K : PySem.W.Frag) (tg : Tg) : TG := fun v σ H Q => ∃ E W Γ d Γ', Rel K ⟨E, W, Γ, σ, H⟩ ∧ Dr K W v d ∧ bnd tg d Γ = some Γ' ∧ ∀ σ', Rel K ⟨E, W, Γ', σ', H⟩ → Stp ⟨E, W, Γ, σ, H⟩ ⟨E, W, Γ', σ', H⟩ → same (slots tg) σ σ' → Q σ' H
def denGs (K : PySem.W.Frag) (tg : Tg) : TGs := fun vs σ H Q => ∃ E W Γ ds Γ', Rel K ⟨E, W, Γ, σ, H⟩ ∧ DrA K W vs ds ∧ bnd tg (.tup ds) Γ = some Γ' ∧ ∀ σ', Rel K ⟨E, W, Γ', σ', H⟩ → Stp ⟨E, W, Γ, σ, H⟩ ⟨E, W, Γ', σ', H⟩ → same (slots tg) σ σ' → Q σ' H
section
variable {K : PySem.W.Frag} {σ : St} {H : Hp} {Q : St → Hp → Prop}
theorem denG_nm {i : Nat} {v : V} (h : denG K (.nm i) v σ H Q) : gName i v σ H Q := by
  obtain ⟨E, W, Γ, d, Γ', R, hd, hb, k⟩ := h
  unfold bnd at hb
  split at hb
  · rename_i hi
    cases hb
    obtain ⟨R', S'⟩ := R.setDat hd hi
    exact k _ R' S' ⟨by simp, fun j hj => List.getElem?_set_ne fun z => hj (by simp [slots, z])⟩
  · cases hb
theorem denGs_nil {vs : List V} (h : denGs K .nil vs σ H Q) : gNil vs σ H Q := by
  obtain ⟨E, W, Γ, ds, Γ', R, hd, hb, k⟩ := h
  cases hd with
  | nil =>
    simp only [bnd] at hb
    cases hb
    exact ⟨rfl, k σ R (Stp.refl _) ⟨rfl, fun _ _ => rfl⟩⟩
  | cons _ _ => simp [bnd] at hb
theorem same.trans {L M : List Nat} {σ σ1 σ2 : St} (a : same L σ σ1) (b : same M σ1 σ2) : same (L ++ M) σ σ2 :=
  ⟨b.1.trans a.1, fun j hj => by
    simp only [List.mem_append, not_or] at hj
    exact (b.2 j hj.2).trans (a.2 j hj.1)⟩
theorem denGs_cons {a r : Tg} {vs : List V} (h : denGs K (.cons a r) vs σ H Q) : gCons (denG K a) (denGs K r) vs σ H Q := by
  obtain ⟨E, W, Γ, ds, Γ', R, hd, hb, k⟩ := h
  cases hd with
  | nil => simp [bnd] at hb
  | @cons v vs d ds h1 h2 =>
    unfold bnd at hb
    cases e : bnd a d Γ with
    | none => rw [e] at hb; cases hb
    | some Γ1 =>
      rw [e] at hb
      refine ⟨v, vs, rfl, E, W, Γ, d, Γ1, R, h1, e, fun σ1 R1 S1 s1 => ?_⟩
      exact ⟨E, W, Γ1, ds, Γ', R1, h2, hb, fun σ2 R2 S2 s2 => k σ2 R2 (S1.trans S2) (s1.trans s2)⟩
def isTup : Tg → Nat → Prop
  | .nm _, _ => False
  | .nil, n => n = 0
  | .cons _ r, n => ∃ m, n = m + 1 ∧ isTup r m
theorem bnd_tup : ∀ {tg : Tg} {n : Nat} {d : D} {Γ Γ' : List Slot}, isTup tg n → bnd tg d Γ = some Γ' → ∃ ds, d = .tup ds ∧ ds.length = n
  | .nm _, _, _, _, _, h, _ => h.elim
  | .nil, n, d, Γ, Γ', h, e => by
    cases d with
    | tup ds =>
      cases ds with
      | nil => exact ⟨[], rfl, h.symm⟩
      | cons _ _ => simp [bnd] at e
    | _ => simp [bnd] at e
  | .cons a r, n, d, Γ, Γ', h, e => by
    obtain ⟨m, rfl, h⟩ := h
    cases d with
    | tup ds =>
      cases ds with
      | nil => simp [bnd] at e
      | cons d ds =>
        unfold bnd at e
        cases e1 : bnd a d Γ with
        | none => rw [e1] at e; cases e
        | some Γ1 =>
          rw [e1] at e
          obtain ⟨ds', z1, z2⟩ := bnd_tup h e
          cases z1
          exact ⟨_, rfl, by simp [z2]⟩
    | _ => simp [bnd] at e
theorem denG_tup {tg : Tg} {n : Nat} (ht : isTup tg n) {v : V} (h : denG K tg v σ H Q) : gTup K n (denGs K tg) v σ H Q := by
  obtain ⟨E, W, Γ, d, Γ', R, hd, hb, k⟩ := h
  obtain ⟨ds, rfl, hl⟩ := bnd_tup ht hb
  cases hd with
  | @tup a vs _ h1 h2 => exact ⟨a, vs, rfl, h1.sq R.le, h2.length.trans hl, E, W, Γ, ds, Γ', R, h2, hb, k⟩
end
end MP

end
-- MP7
section
/-! MP7: iterators and list comprehensions. -/
namespace MP
open PySem L2
/-- what stands in H1 and is not in M stays -/
def Frm (W0 H1 : Hp) (M : Addr → Prop) (H : Hp) : Prop := Le W0 H ∧ ∀ a o, H1 a = some o → ¬ M a → (W0 a = none ∨ lkb o = false) → H a = some o
/-- J yields xs, as long as what stands in H1 and is not in M stays -/
structure ItOk (K : PySem.W.Frag) (W0 H1 : Hp) (M : Addr → Prop) (J : It) (xs : List D) : Prop where
  go : ∀ i H, i < xs.length → Frm W0 H1 M H → J.go i H
  yl : ∀ i H x H' d W, xs[i]? = some d → Frm W0 H1 M H → J.yld i H x H' → Ex W0 W → Le W H → ∃ W', PSt W H W' H' ∧ Dr K W' x d
  stop : ∀ H, Frm W0 H1 M H → J.stop xs.length H
/-- the changeable addresses while what ls gives is walked -/
def muL (c : Cf) (ls : List Vl) : Addr → Prop := Cf.mu ⟨c.E, c.W, lockA (locks c.Γ ls) c.Γ, c.σ, c.H⟩
def denI (K : PySem.W.Frag) (Wx : WX) (g : List D → Option (List D)) (as : Ta) : TI := fun σ H R => ∃ E W Γ, Rel K ⟨E, W, Γ, σ, H⟩ ∧ PoR K Wx ⟨E, W, Γ, σ, H⟩ (evA as Γ) fun ls c1 =>
  ∃ ds xs, resA c1.Γ ls = some ds ∧ g ds = some xs ∧ ∀ J W2 H2, PSl c1.W c1.H W2 H2 → ItOk K W2 H2 (muL c1 ls) J xs → R J H2
abbrev W0x : WX := fun _ _ _ _ => False
theorem Rs.nox_ok {α : Type} {r : Rs α} {a : α} {Γ : List Slot} (h : r.nox = .ok a Γ) : r = .ok a Γ := by
  cases r with
  | ok _ _ => exact h
  | exn _ _ => cases h
  | stuck => cases h
theorem wipe_same {own L : List Nat} {σ σ' : St} (h : same L σ σ') (hs : ∀ i ∈ L, i ∈ own) : wipe σ' own = wipe σ own := by
  refine List.ext_getElem? fun i => ?_
  by_cases hi : i ∈ own
  · have none_of : ∀ (τ : St), (wipe τ own)[i]? = if i < τ.length then some none else none := fun τ => by
      have hl := wipe_length τ own
      by_cases hlt : i < τ.length
      · rw [if_pos hlt]
        cases e : (wipe τ own)[i]? with
        | none =>
          rw [List.getElem?_eq_none_iff, hl] at e
          omega
        | some o =>
          cases o with
          | none => rfl
          | some x => exact absurd hi (wipe_some e).2
      · rw [if_neg hlt, List.getElem?_eq_none_iff, hl]
        omega
    rw [none_of, none_of, h.1]
  · rw [wipe_out hi, wipe_out hi]
    exact h.2 i fun z => hi (hs i z)
section
variable {K : PySem.W.Frag} {Wx : WX} {c c1 cE : Cf}
/-- behind a walk: the slots of the comprehension's own names as before, what was locked unlocked -/
theorem unwalk {own L : List Nat} (R1 : Rel K c1) (hL : ∀ i ∈ L, ∃ b d, c1.Γ[i]? = some (.mt b d)) (hno : noMut own c1.Γ = true) (RE : Rel K cE) (hσ : cE.σ = wipe c1.σ own)
    (SE : Stp ⟨c1.E, c1.W, wipeG own (lockA L c1.Γ), wipe c1.σ own, c1.H⟩ cE) :
    Rel K ⟨cE.E, cE.W, keepG own c1.Γ (unlockA L cE.Γ), c1.σ, cE.H⟩ ∧ Stp c1 ⟨cE.E, cE.W, keepG own c1.Γ (unlockA L cE.Γ), c1.σ, cE.H⟩ := by
  have nom : ∀ j ∈ own, ∀ b d, c1.Γ[j]?.getD .no ≠ .mt b d ∧ c1.Γ[j]?.getD .no ≠ .lck b d := fun j hj b d => by
    have h := List.all_eq_true.mp hno j hj
    cases e : c1.Γ[j]? with
    | none => exact ⟨nofun, nofun⟩
    | some s =>
      rw [e] at h
      cases s with
      | no => exact ⟨nofun, nofun⟩
      | dat d => exact ⟨nofun, nofun⟩
      | mt _ _ => cases h
      | lck _ _ => cases h
  have sg : ∀ {j : Nat}, j ∉ own → cE.σ[j]? = c1.σ[j]? := fun {j} hj => by rw [hσ]; exact wipe_out hj
  -- a changeable slot behind the walk
  have ms : ∀ {j : Nat} {b : Bool} {d : D}, ((keepG own c1.Γ (unlockA L cE.Γ))[j]? = some (.mt b d) ∨ (keepG own c1.Γ (unlockA L cE.Γ))[j]? = some (.lck b d)) → j ∉ own ∧ (cE.Γ[j]? = some (.mt b d) ∨ cE.Γ[j]? = some (.lck b d)) := fun {j b d} h => by
    rcases h with h | h
    · rcases keepG_get h with ⟨n, z⟩ | ⟨n, z⟩
      · refine ⟨n, ?_⟩
        rcases unlockA_get z with ⟨y, _⟩ | ⟨b', d', _, y, e⟩
        · exact .inl y
        · cases e; exact .inr y
      · exact absurd z.symm (nom j n b d).1
    · rcases keepG_get h with ⟨n, z⟩ | ⟨n, z⟩
      · refine ⟨n, ?_⟩
        rcases unlockA_get z with ⟨y, _⟩ | ⟨b', d', _, y, e⟩
        · exact .inr y
        · cases e
      · exact absurd z.symm (nom j n b d).2
  have muL : ∀ {a}, Cf.mu ⟨c1.E, c1.W, wipeG own (lockA L c1.Γ), wipe c1.σ own, c1.H⟩ a → c1.mu a := fun {a} h => by
    obtain ⟨j, b, d, g, e⟩ := h
    rcases wipeG_get g with ⟨n, z⟩ | ⟨_, z⟩
    · rcases lockA_get z with ⟨y, _⟩ | ⟨_, _, _, _, y⟩
      · exact ⟨j, b, d, y, (wipe_out n).symm.trans e⟩
      · cases y
    · cases z
  have adL : ∀ {a}, Cf.ad ⟨c1.E, c1.W, wipeG own (lockA L c1.Γ), wipe c1.σ own, c1.H⟩ a → c1.ad a := fun {a} h => by
    obtain ⟨j, ⟨b, d, g⟩, e⟩ := h
    have : j ∉ own ∧ IsM c1.Γ j := by
      rcases g with g | g
      · rcases wipeG_get g with ⟨n, z⟩ | ⟨_, z⟩
        · rcases lockA_get z with ⟨y, _⟩ | ⟨_, _, _, _, y⟩
          · exact ⟨n, b, d, .inl y⟩
          · cases y
        · cases z
      · rcases wipeG_get g with ⟨n, z⟩ | ⟨_, z⟩
        · rcases lockA_get z with ⟨y, _⟩ | ⟨b', d', _, y, _⟩
          · exact ⟨n, b, d, .inr y⟩
          · exact ⟨n, b', d', .inl y⟩
        · cases z
    exact ⟨j, this.2, (wipe_out this.1).symm.trans e⟩
  have lkL : ∀ {j : Nat} {b : Bool} {d : D}, cE.Γ[j]? = some (.lck b d) → j ∉ own → ((j ∈ L ∧ ∃ d, c1.Γ[j]? = some (.mt b d)) ∨ ∃ d, c1.Γ[j]? = some (.lck b d)) := fun {j b d} g n => by
    obtain ⟨⟨d', z⟩, _⟩ := SE.lk j b d g
    rcases wipeG_get z with ⟨_, y⟩ | ⟨_, y⟩
    · rcases lockA_get y with ⟨w, _⟩ | ⟨_, _, m, w, e⟩
      · exact .inr ⟨_, w⟩
      · cases e; exact .inl ⟨m, _, w⟩
    · cases y
  refine ⟨⟨?_, RE.le, RE.ent, fun j d g => ?_, fun j b d g => ?_, fun i j a h1 h2 e1 e2 => ?_⟩, ⟨SE.ent, SE.w, fun a o h n gd => SE.fr a o h (fun z => n (muL z)) gd, SE.th, fun a h => ?_, fun a h => ?_, fun a h => ?_, fun j b d g => ?_, fun j d g => ?_⟩⟩
  · show (keepG own c1.Γ (unlockA L cE.Γ)).length = c1.σ.length
    rw [keepG_len, unlockA_len, RE.len, hσ, wipe_length]
  · rcases keepG_get g with ⟨n, z⟩ | ⟨n, z⟩
    · rcases unlockA_get z with ⟨y, _⟩ | ⟨_, _, _, _, y⟩
      · obtain ⟨v, e1, e2⟩ := RE.dat j d y
        exact ⟨v, (sg n).symm.trans e1, e2⟩
      · cases y
    · cases e : c1.Γ[j]? with
      | none => rw [e] at z; cases z
      | some s =>
        rw [e] at z
        have z' : Slot.dat d = s := z
        rw [← z'] at e
        obtain ⟨v, e1, e2⟩ := R1.dat j d e
        exact ⟨v, e1, e2.mono SE.w⟩
  · obtain ⟨n, z⟩ := ms g
    obtain ⟨a, e1, e2, e3, e4⟩ := RE.am j b d z
    exact ⟨a, (sg n).symm.trans e1, e2, e3, e4⟩
  · obtain ⟨b1, d1, h1⟩ := h1
    obtain ⟨b2, d2, h2⟩ := h2
    obtain ⟨n1, z1⟩ := ms h1
    obtain ⟨n2, z2⟩ := ms h2
    exact RE.dist i j a ⟨b1, d1, z1⟩ ⟨b2, d2, z2⟩ ((sg n1).trans e1) ((sg n2).trans e2)
  · rcases SE.nw a h with z | z | z | z
    · exact .inl z
    · exact .inr (.inl z)
    · exact .inr (.inr (.inl (muL z)))
    · exact .inr (.inr (.inr z))
  · obtain ⟨j, b, d, g, e⟩ := h
    obtain ⟨n, z⟩ := ms (.inl g)
    rcases z with z | z
    · rcases SE.mu a ⟨j, b, d, z, (sg n).trans e⟩ with y | y
      · exact .inl (muL y)
      · exact .inr y
    · -- it was locked here
      rcases lkL z n with ⟨y, w⟩ | ⟨d', y⟩
      · obtain ⟨b', d', w⟩ := hL j y
        exact .inl ⟨j, b', d', w, e⟩
      · exfalso
        rcases keepG_get g with ⟨_, x⟩ | ⟨n', _⟩
        · rcases unlockA_get x with ⟨x1, _⟩ | ⟨b2, d2, m, _, _⟩
          · rw [z] at x1; cases x1
          · obtain ⟨b3, d3, w⟩ := hL j m
            rw [y] at w; cases w
        · exact n n'
  · obtain ⟨j, ⟨b, d, g⟩, e⟩ := h
    obtain ⟨n, z⟩ := ms g
    rcases SE.ad a ⟨j, ⟨b, d, z⟩, (sg n).trans e⟩ with y | y
    · exact .inl (adL y)
    · exact .inr y
  · rcases keepG_get g with ⟨n, z⟩ | ⟨n, z⟩
    · rcases unlockA_get z with ⟨y, w⟩ | ⟨_, _, _, _, y⟩
      · rcases lkL y n with x | x
        · exact absurd rfl (w x.1 b d)
        · exact ⟨x, rfl⟩
      · cases y
    · exact absurd z.symm (nom j n b d).2
  · rcases keepG_get g with ⟨n, z⟩ | ⟨n, z⟩
    · rcases unlockA_get z with ⟨y, w⟩ | ⟨b', d', m, y, e⟩
      · obtain ⟨⟨d2, x⟩, _⟩ := SE.io j d y
        rcases wipeG_get x with ⟨_, x⟩ | ⟨_, x⟩
        · rcases lockA_get x with ⟨x, _⟩ | ⟨_, _, _, _, x⟩
          · exact ⟨⟨d2, x⟩, rfl⟩
          · cases x
        · cases x
      · cases e
        rcases lkL y n with ⟨_, x⟩ | ⟨d2, x⟩
        · exact ⟨x, rfl⟩
        · obtain ⟨b3, d3, w⟩ := hL j m
          rw [x] at w; cases w
    · exact absurd z.symm (nom j n false d).1
/-- the reading of a list comprehension -/
theorem den_lc {σ : St} {H : Hp} {Q : VK} {g : List D → Option (List D)} {as : Ta} {tg : Tg} {own : List Nat} {tc te : Tm} (hown : ∀ i ∈ slots tg, i ∈ own) (h : den K Wx (.lc g as tg own tc te) σ H Q) :
    tLc (denI K Wx g as) (denG K tg) (denT K W0x tc) (den K W0x te) own σ H Q := by
  obtain ⟨E, W, Γ, R, h⟩ := h
  simp only [ev] at h
  refine ⟨E, W, Γ, R, h.bind0.imp fun ls c1 R1 S1 es h1 => ?_⟩
  obtain ⟨E1, W1, Γ1, σ1, H1⟩ := c1
  cases es
  obtain rfl : E1 = E := S1.ent
  dsimp only at h1
  cases er : resA Γ1 ls with
  | none => rw [er] at h1; exact h1.elim
  | some ds =>
    rw [er] at h1
    dsimp only at h1
    cases eg : g ds with
    | none => rw [eg] at h1; exact h1.elim
    | some xs =>
      rw [eg] at h1
      dsimp only at h1
      split at h1
      rotate_left
      · exact h1.elim
      rename_i cd
      obtain ⟨hlen, hno⟩ := cd
      refine ⟨ds, xs, rfl, eg, fun J W2 H2 p2 IT D hD => ?_⟩
      obtain ⟨R2, S2⟩ := Rel.psl R1 p2
      dsimp only at R2 S2
      generalize hLk : locks Γ1 ls = L at h1
      have hL : ∀ i ∈ L, ∃ b d, Γ1[i]? = some (.mt b d) := fun i hi => by rw [← hLk] at hi; exact locks_mt hi
      -- where the walk begins
      have RL : Rel K ⟨E1, W2, wipeG own (lockA L Γ1), wipe σ own, H2⟩ := (R2.lockA (L := L)).wipe
      generalize hcL : (⟨E1, W2, wipeG own (lockA L Γ1), wipe σ own, H2⟩ : Cf) = cL at RL
      have cLE : cL.E = E1 := by rw [← hcL]
      have cLW : cL.W = W2 := by rw [← hcL]
      have cLH : cL.H = H2 := by rw [← hcL]
      have cLσ : cL.σ = wipe σ own := by rw [← hcL]
      have cLΓ : cL.Γ = wipeG own (lockA L Γ1) := by rw [← hcL]
      have muLe : ∀ a, cL.mu a → muL ⟨E1, W1, Γ1, σ, H1⟩ ls a := fun a ⟨j, b, d, gg, e⟩ => by
        rw [cLΓ] at gg
        rw [cLσ] at e
        rcases wipeG_get gg with ⟨n, z⟩ | ⟨_, z⟩
        · rw [← hLk] at z
          exact ⟨j, b, d, z, (wipe_out n).symm.trans e⟩
        · cases z
      refine ⟨fun i m H => m = xs.length - i ∧ i ≤ xs.length ∧ ∃ W Γ acc aV, Rel K ⟨E1, W, Γ, wipe σ own, H⟩ ∧ Stp cL ⟨E1, W, Γ, wipe σ own, H⟩ ∧ H D = some (.lst aV) ∧ DrA K W aV acc ∧ W D = none ∧ ¬ Cf.ad ⟨E1, W, Γ, wipe σ own, H⟩ D ∧ acc.length ≤ i ∧
        lcLoop (ev tc) (ev te) tg own xs [] (wipeG own (lockA L Γ1)) = lcLoop (ev tc) (ev te) tg own (xs.drop i) acc Γ, ⟨xs.length, by simp, Nat.zero_le _, W2, wipeG own (lockA L Γ1), [], [], ?_⟩, ?_⟩
      · have p3 : PSt cL.W cL.H cL.W (upd cL.H D (.lst [])) := PSt.fresh RL.le (by rw [cLH]; exact hD)
        obtain ⟨R3, S3⟩ := RL.pst p3
        have nad : ¬ cL.ad D := fun z => (RL.ad_ne z).1 (by rw [cLH]; exact hD)
        rw [cLE, cLW, cLH, cLσ, cLΓ] at R3 S3
        refine ⟨R3, S3, upd_same, .nil, R2.le.no hD, fun z => nad ?_, Nat.le_refl _, ?_⟩
        · obtain ⟨j, g, e⟩ := z
          exact ⟨j, by rw [cLΓ]; exact g, by rw [cLσ]; exact e⟩
        · rw [List.drop_zero]
      · rintro i m Hi ⟨rfl, hi, Wi, Γi, acc, aV, Ri, Si, hDi, hA, hWD, nad, hal, hlp⟩
        have exW : Ex W2 Wi := by
          have := Si.w
          rw [cLW] at this
          exact this
        have kp : Frm W2 H2 (muL ⟨E1, W1, Γ1, σ, H1⟩ ls) Hi := ⟨exW.le Ri.le, fun a o e n gd => Si.fr a o (by rw [cLH]; exact e) (fun z => n (muLe a z)) (by rw [cLW]; exact gd)⟩
        by_cases hlt : i < xs.length
        rotate_left
        · -- the end
          have ei : i = xs.length := by omega
          subst ei
          refine .inl ⟨IT.stop Hi kp, ?_⟩
          rw [List.drop_length] at hlp
          rw [hlp] at h1
          simp only [lcLoop, Rs.bind] at h1
          have SE : Stp ⟨E1, W2, wipeG own (lockA L Γ1), wipe σ own, H2⟩ ⟨E1, Wi, Γi, wipe σ own, Hi⟩ := by rw [hcL]; exact Si
          obtain ⟨R5, S5⟩ := unwalk (c1 := ⟨E1, W2, Γ1, σ, H2⟩) R2 hL hno Ri rfl SE
          refine h1 Wi Hi R5 (S1.trans (S2.trans S5)) _ (.new (S1.back D ((S2.back D hD))) hWD (fun z => ?_) (.lst hDi hA))
          rcases S5.ad D z with y | y
          · exact (R2.ad_ne y).1 hD
          · obtain ⟨j, ⟨b, d, gg⟩, e⟩ := z
            -- a changeable slot with D was one in the walk
            refine nad ⟨j, ?_, ?_⟩
            · rcases gg with gg | gg
              · rcases keepG_get gg with ⟨n, z⟩ | ⟨n, z⟩
                · rcases unlockA_get z with ⟨w, _⟩ | ⟨b', d', _, w, _⟩
                  · exact ⟨b, d, .inl w⟩
                  · exact ⟨b', d', .inr w⟩
                · exfalso
                  have h := List.all_eq_true.mp hno j n
                  cases q : Γ1[j]? with
                  | none => rw [q] at z; cases z
                  | some s =>
                    rw [q] at z
                    have z' : Slot.mt b d = s := z
                    rw [q, ← z'] at h
                    cases h
              · rcases keepG_get gg with ⟨n, z⟩ | ⟨n, z⟩
                · rcases unlockA_get z with ⟨w, _⟩ | ⟨b', d', _, w, _⟩
                  · exact ⟨b, d, .inr w⟩
                  · exact ⟨b', d', .inr w⟩
                · exfalso
                  have h := List.all_eq_true.mp hno j n
                  cases q : Γ1[j]? with
                  | none => rw [q] at z; cases z
                  | some s =>
                    rw [q] at z
                    have z' : Slot.lck b d = s := z
                    rw [q, ← z'] at h
                    cases h
            · have hj : j ∉ own := fun n => by
                have h := List.all_eq_true.mp hno j n
                rcases gg with gg | gg
                · rcases keepG_get gg with ⟨n', _⟩ | ⟨_, z⟩
                  · exact n' n
                  · cases q : Γ1[j]? with
                    | none => rw [q] at z; cases z
                    | some s =>
                      rw [q] at z
                      have z' : Slot.mt b d = s := z
                      rw [q, ← z'] at h
                      cases h
                · rcases keepG_get gg with ⟨n', _⟩ | ⟨_, z⟩
                  · exact n' n
                  · cases q : Γ1[j]? with
                    | none => rw [q] at z; cases z
                    | some s =>
                      rw [q] at z
                      have z' : Slot.lck b d = s := z
                      rw [q, ← z'] at h
                      cases h
              exact (wipe_out hj).trans e
        · -- a turn
          have hx : xs[i]? = some xs[i] := List.getElem?_eq_getElem hlt
          have hdr : xs.drop i = xs[i] :: xs.drop (i + 1) := List.drop_eq_getElem_cons hlt
          rw [hdr] at hlp
          simp only [lcLoop] at hlp
          have h1' := h1
          rw [hlp] at h1'
          refine .inr ⟨IT.go i Hi hlt kp, fun H' => ∃ W Γ acc' aV', Rel K ⟨E1, W, Γ, wipe σ own, H'⟩ ∧ Stp cL ⟨E1, W, Γ, wipe σ own, H'⟩ ∧ H' D = some (.lst aV') ∧ DrA K W aV' acc' ∧ W D = none ∧ ¬ Cf.ad ⟨E1, W, Γ, wipe σ own, H'⟩ D ∧ acc'.length ≤ i + 1 ∧
            lcLoop (ev tc) (ev te) tg own xs [] (wipeG own (lockA L Γ1)) = lcLoop (ev tc) (ev te) tg own (xs.drop (i + 1)) acc' Γ,
            fun H' z => ⟨xs.length - (i + 1), by omega, rfl, hlt, z⟩, fun x H' y => ?_⟩
          obtain ⟨W3, p3, dx⟩ := IT.yl i Hi x H' xs[i] Wi hx kp y exW Ri.le
          obtain ⟨R3, S3⟩ := Ri.pst p3
          dsimp only at R3 S3
          have hD3 : H' D = some (.lst aV) := p3.h D _ hDi
          cases eb : bnd tg xs[i] Γi with
          | none => rw [eb] at h1'; exact h1'.elim
          | some Γ4 =>
            rw [eb] at h1' hlp
            refine ⟨E1, W3, Γi, xs[i], Γ4, R3, dx, eb, fun σ4 R4 S4 s4 => ⟨(wipe_same s4 hown).trans ?_, ?_⟩⟩
            · refine List.ext_getElem? fun k => ?_
              by_cases hk : k ∈ own
              · have z : ∀ (τ : St), (wipe τ own)[k]? = if k < τ.length then some none else none := fun τ => by
                  have hl := wipe_length τ own
                  by_cases hlt : k < τ.length
                  · rw [if_pos hlt]
                    cases e : (wipe τ own)[k]? with
                    | none =>
                      rw [List.getElem?_eq_none_iff, hl] at e
                      omega
                    | some o =>
                      cases o with
                      | none => rfl
                      | some x => exact absurd hk (wipe_some e).2
                  · rw [if_neg hlt, List.getElem?_eq_none_iff, hl]
                    omega
                rw [z, z, wipe_length]
              · rw [wipe_out hk]
            · have SL4 : Stp cL ⟨E1, W3, Γ4, σ4, H'⟩ := Si.trans (S3.trans S4)
              have S34 : Stp ⟨E1, Wi, Γi, wipe σ own, Hi⟩ ⟨E1, W3, Γ4, σ4, H'⟩ := S3.trans S4
              -- what stays true of D
              have dk : ∀ {c' : Cf}, Stp ⟨E1, W3, Γ4, σ4, H'⟩ c' → ¬ c'.ad D := fun {c'} S z => by
                rcases (S34.trans S).ad D z with w | w
                · exact nad w
                · have w' : Hi D = none := w
                  rw [hDi] at w'; cases w'
              have dh : ∀ {c' : Cf}, Stp ⟨E1, W3, Γ4, σ4, H'⟩ c' → c'.H D = some (.lst aV) := fun {c'} S => (S34.trans S).fr D _ hDi (fun z => nad (Cf.mu_ad z)) (.inl hWD)
              have dw : ∀ {c' : Cf}, Stp ⟨E1, W3, Γ4, σ4, H'⟩ c' → c'.W D = none := fun {c'} S => by
                by_cases q : c'.W D = none
                · exact q
                · rcases (S34.trans S).nw D q with w | w | w | ⟨ys, w⟩
                  · exact absurd hWD w
                  · have w' : Hi D = none := w
                    rw [hDi] at w'; cases w'
                  · exact absurd (Cf.mu_ad w) nad
                  · have w' : Hi D = _ := w
                    rw [hDi] at w'; cases w'
              have wex : ∀ {c' : Cf}, Stp ⟨E1, W3, Γ4, σ4, H'⟩ c' → Ex Wi c'.W := fun {c'} S => (S34.trans S).w
              -- wiped behind a turn
              have wp : ∀ {W5 H5 : Hp} {Γ5 : List Slot}, Rel K ⟨E1, W5, Γ5, σ4, H5⟩ → Stp cL ⟨E1, W5, Γ5, σ4, H5⟩ → wipe σ4 own = wipe σ own → Rel K ⟨E1, W5, wipeG own Γ5, wipe σ own, H5⟩ ∧ Stp cL ⟨E1, W5, wipeG own Γ5, wipe σ own, H5⟩ ∧ Stp ⟨E1, W5, Γ5, σ4, H5⟩ ⟨E1, W5, wipeG own Γ5, wipe σ own, H5⟩ := fun {W5 H5 Γ5} R5 S5 e => by
                have a := R5.wipe (own := own)
                have b := Stp.wipe (c := ⟨E1, W5, Γ5, σ4, H5⟩) (own := own)
                dsimp only at a b
                rw [e] at a b
                exact ⟨a, S5.trans b, b⟩
              have hw4 : wipe σ4 own = wipe σ own := by
                refine (wipe_same s4 hown).trans ?_
                refine List.ext_getElem? fun k => ?_
                by_cases hk : k ∈ own
                · have z : ∀ (τ : St), (wipe τ own)[k]? = if k < τ.length then some none else none := fun τ => by
                    have hl := wipe_length τ own
                    by_cases hlt : k < τ.length
                    · rw [if_pos hlt]
                      cases e : (wipe τ own)[k]? with
                      | none =>
                        rw [List.getElem?_eq_none_iff, hl] at e
                        omega
                      | some o =>
                        cases o with
                        | none => rfl
                        | some x => exact absurd hk (wipe_some e).2
                    · rw [if_neg hlt, List.getElem?_eq_none_iff, hl]
                      omega
                  rw [z, z, wipe_length]
                · rw [wipe_out hk]
              simp only at h1' hlp
              cases ec : ev tc Γ4 with
              | stuck => rw [ec] at h1'; exact h1'.elim
              | exn xn Γ5 => rw [ec] at h1'; exact h1'.elim
              | ok l Γ5 =>
                rw [ec] at h1' hlp
                simp only [Rs.nox, Rs.bind] at h1' hlp
                refine ⟨E1, W3, Γ4, R4, ?_⟩
                rw [ec]
                intro W5 H5 R5 S5
                dsimp only at R5 S5
                cases l with
                | ref _ => exact h1'.elim
                | new _ => exact h1'.elim
                | dat dl =>
                  cases dl with
                  | bl bb =>
                    cases bb with
                    | true =>
                      refine ⟨true, rfl, ?_⟩
                      dsimp only
                      rw [if_pos rfl]
                      simp only at hlp
                      cases ee : ev te Γ5 with
                      | stuck => rw [ee] at h1'; exact h1'.elim
                      | exn xn Γ6 => rw [ee] at h1'; exact h1'.elim
                      | ok le Γ6 =>
                        rw [ee] at h1' hlp
                        simp only [Rs.nox, Rs.bind] at h1' hlp
                        refine ⟨E1, W5, Γ5, R5, ?_⟩
                        rw [ee]
                        intro W6 H6 R6 S6 vy Vy
                        dsimp only at R6 S6 Vy
                        cases es : esc le Γ6 with
                        | stuck => rw [es] at h1'; exact h1'.elim
                        | exn xn Γ7 => exact (esc_ne es).elim
                        | ok dy Γ7 =>
                          rw [es] at h1' hlp
                          simp only [Rs.bind] at h1' hlp
                          obtain ⟨W7, R7, S7, dd, x7, _, m7⟩ := R6.esc S6 Vy es
                          dsimp only at R7 S7
                          have S57 : Stp ⟨E1, W3, Γ4, σ4, H'⟩ ⟨E1, W7, Γ7, σ4, H6⟩ := S5.trans S7
                          have hD7 : H6 D = some (.lst aV) := dh S57
                          have hW7 : W7 D = none := dw S57
                          have nD7 := dk S57
                          -- the new item
                          have R8 : Rel K ⟨E1, W7, Γ7, σ4, upd H6 D (.lst (aV ++ [vy]))⟩ := by
                            refine ⟨R7.len, fun a o e => ?_, fun a z => ?_, R7.dat, fun j b d g => ?_, R7.dist⟩
                            · have ne : a ≠ D := fun z => by
                                have e' : W7 a = some o := e
                                rw [z, hW7] at e'
                                cases e'
                              rcases R7.le a o e with w | ⟨ob, w, tt⟩
                              · exact .inl (by show upd H6 D _ a = _; rw [upd_ne ne]; exact w)
                              · exact .inr ⟨ob, by show upd H6 D _ a = _; rw [upd_ne ne]; exact w, tt⟩
                            · show upd H6 D _ a ≠ none
                              by_cases q : a = D
                              · subst q; rw [upd_same]; exact nofun
                              · rw [upd_ne q]; exact R7.ent a z
                            · obtain ⟨a, e1, e2, e3, e4⟩ := R7.am j b d g
                              have ne : a ≠ D := fun z => nD7 ⟨j, ⟨b, d, g⟩, z ▸ e1⟩
                              exact ⟨a, e1, e2, e3.mono (Ex.refl _) fun o w => by show upd H6 D _ a = _; rw [upd_ne ne]; exact w, e4⟩
                          have S8 : Stp cL ⟨E1, W7, Γ7, σ4, upd H6 D (.lst (aV ++ [vy]))⟩ := by
                            have q := SL4.trans S57
                            have cD : cL.H D = none := by rw [cLH]; exact hD
                            refine ⟨q.ent, q.w, fun a o e n gd => ?_, fun a z => ?_, q.nw, q.mu, q.ad, q.lk, q.io⟩
                            · have ne : a ≠ D := fun z => by rw [z, cD] at e; cases e
                              show upd H6 D _ a = _
                              rw [upd_ne ne]
                              exact q.fr a o e n gd
                            · show upd H6 D _ a ≠ none
                              by_cases w : a = D
                              · subst w; rw [upd_same]; exact nofun
                              · rw [upd_ne w]; exact q.th a z
                          obtain ⟨R9, S9, T9⟩ := wp R8 S8 hw4
                          refine ⟨aV, hD7, ?_, W7, wipeG own Γ7, acc ++ [dy], aV ++ [vy], R9, S9, upd_same, ?_, hW7, fun z => ?_, by simp; omega, hlp⟩
                          · have e1 : aV.length = acc.length := hA.length
                            exact lim_lt (Nat.lt_of_le_of_lt (e1 ▸ hal) (Nat.lt_of_lt_of_le hlt hlen))
                          · exact (hA.mono (wex S57)).append (.cons dd .nil)
                          · obtain ⟨j, g, e⟩ := z
                            obtain ⟨b, d, g⟩ := g
                            have hj : j ∉ own ∧ IsM Γ7 j := by
                              rcases g with g | g
                              · rcases wipeG_get g with ⟨n, w⟩ | ⟨_, w⟩
                                · exact ⟨n, b, d, .inl w⟩
                                · cases w
                              · rcases wipeG_get g with ⟨n, w⟩ | ⟨_, w⟩
                                · exact ⟨n, b, d, .inr w⟩
                                · cases w
                            refine nD7 ⟨j, hj.2, ?_⟩
                            have e' : (wipe σ own)[j]? = some (some (V.ref D)) := e
                            rw [← hw4, wipe_out hj.1] at e'
                            exact e'
                    | false =>
                      refine ⟨false, rfl, ?_⟩
                      dsimp only
                      rw [if_neg Bool.false_ne_true]
                      simp only at hlp
                      obtain ⟨R9, S9, T9⟩ := wp R5 (SL4.trans S5) hw4
                      have nz : ¬ Cf.ad ⟨E1, W5, wipeG own Γ5, wipe σ own, H5⟩ D := fun z => by
                        rcases T9.ad D z with w | w
                        · exact dk S5 w
                        · have w' : H5 D = none := w
                          have w2 : H5 D = some (.lst aV) := dh S5
                          rw [w2] at w'
                          cases w'
                      exact ⟨W5, wipeG own Γ5, acc, aV, R9, S9, dh S5, hA.mono (wex S5), dw S5, nz, by omega, hlp⟩
                  | _ => exact h1'.elim
end
end MP

end
-- MP8
section
/-! MP8: statements. -/
namespace MP
open PySem L2
/-- what is handed back: a thing that is new since the def's entry, or a datum -/
inductive ORelE (K : PySem.W.Frag) (c : Cf) : V → Ou → Prop
  | dat {v : V} {d : D} : Dr K c.W v d → ORelE K c v (.dat d)
  | new {a : Addr} {d : D} : c.E a = none → c.W a = none → ¬ c.ad a → MutAt K c.W c.H a d → ORelE K c (.ref a) (.new d)
def FlP (K : PySem.W.Frag) (c : Cf) (D : Ends) : Fl → Prop
  | .nx => D.nx c.σ c.H
  | .bk => D.bk c.σ c.H
  | .ct => D.ct c.σ c.H
  | .rt o => ∀ v, ORelE K c v o → D.rt v c.H
def PoS (K : PySem.W.Frag) (Wx : WX) (c : Cf) (r : Rs Fl) (D : Ends) : Prop := match r with
  | .ok f Γ => ∀ W' σ' H', Rel K ⟨c.E, W', Γ, σ', H'⟩ → Stp c ⟨c.E, W', Γ, σ', H'⟩ → FlP K ⟨c.E, W', Γ, σ', H'⟩ D f
  | .exn x Γ => ∀ cls d W' σ' H', Rel K ⟨c.E, W', Γ, σ', H'⟩ → Stp c ⟨c.E, W', Γ, σ', H'⟩ → XRel K W' H' x cls d → Wx cls d σ' H'
  | .stuck => False
def denS (K : PySem.W.Frag) (Wx : WX) (n : Nat) (s : Sm) : TS := fun D σ H => ∃ E W Γ, Rel K ⟨E, W, Γ, σ, H⟩ ∧ PoS K Wx ⟨E, W, Γ, σ, H⟩ (ex n s Γ) D
def denSs (K : PySem.W.Frag) (Wx : WX) (n : Nat) (s : Ss) : TS := fun D σ H => ∃ E W Γ, Rel K ⟨E, W, Γ, σ, H⟩ ∧ PoS K Wx ⟨E, W, Γ, σ, H⟩ (exs n s Γ) D
section
variable {K : PySem.W.Frag} {Wx : WX} {α : Type} {c c1 : Cf} {D : Ends} {σ : St} {H : Hp} {n : Nat}
theorem PoS.bindR {r : Rs α} {f : α → List Slot → Rs Fl} (h : PoS K Wx c (r.bind f) D) : PoR K Wx c r fun a c1 => PoS K Wx c (f a c1.Γ) D := by
  cases r with
  | ok a Γ => exact fun W' H' R S => h
  | exn x Γ => exact fun cls d W' H' R S X => h cls d W' c.σ H' R S X
  | stuck => exact h
theorem PoS.bindAt {r : Rs α} {f : α → List Slot → Rs Fl} (h : PoS K Wx c (r.bind f) D) (S : Stp c c1) : PoR K Wx c1 r fun a c2 => PoS K Wx c (f a c2.Γ) D := by
  have e := S.ent
  cases r with
  | ok a Γ => exact fun W' H' R S => h
  | exn x Γ =>
    intro cls d W' H' R' S' X
    rw [e] at R' S'
    exact h cls d W' c1.σ H' R' (S.trans S') X
  | stuck => exact h
theorem PoS.later {r : Rs Fl} (h : PoS K Wx c r D) (S : Stp c c1) : PoS K Wx c1 r D := by
  have e := S.ent
  cases r with
  | ok f Γ =>
    intro W' σ' H' R' S'
    rw [e] at R' S' ⊢
    exact h W' σ' H' R' (S.trans S')
  | exn x Γ =>
    intro cls d W' σ' H' R' S' X
    rw [e] at R' S'
    exact h cls d W' σ' H' R' (S.trans S') X
  | stuck => exact h
theorem Rel.ent0 (R : Rel K c) {a : Addr} (h : c.H a = none) : c.E a = none := by
  by_cases q : c.E a = none
  · exact q
  · exact absurd h (R.ent a q)
theorem denSs_nil (h : denSs K Wx n .nil D σ H) : tNext D σ H := by
  obtain ⟨E, W, Γ, R, h⟩ := h
  exact h W σ H R (Stp.refl _)
theorem denSs_cons {s : Sm} {r : Ss} (h : denSs K Wx n (.cons s r) D σ H) : tSeq (denS K Wx n s) (denSs K Wx n r) D σ H := by
  obtain ⟨E, W, Γ, R, h⟩ := h
  simp only [exs] at h
  refine ⟨E, W, Γ, R, ?_⟩
  cases e : ex n s Γ with
  | stuck => rw [e] at h; exact h
  | exn x Γ1 => rw [e] at h; exact h
  | ok f Γ1 =>
    rw [e] at h
    simp only [Rs.bind] at h
    intro W' σ' H' R' S'
    cases f with
    | nx => exact ⟨E, W', Γ1, R', PoS.later h S'⟩
    | rt o => exact h W' σ' H' R' S'
    | bk => exact h W' σ' H' R' S'
    | ct => exact h W' σ' H' R' S'
theorem store_ok {i : Nat} {l : Vl} {v : V} {Γ' : List Slot} (R : Rel K c) (R1 : Rel K c1) (S1 : Stp c c1) (V : VRel K c c1 v l) (e : store i l c1.Γ = .ok () Γ') :
    ∃ W', Rel K ⟨c1.E, W', Γ', c1.σ.set i (some v), c1.H⟩ ∧ Stp c ⟨c1.E, W', Γ', c1.σ.set i (some v), c1.H⟩ := by
  unfold store at e
  split at e
  rotate_left
  · cases e
  rename_i hi
  have gen : (∀ d, l ≠ .new d) → ((esc l c1.Γ).bind fun d Γ1 => Rs.ok () (Γ1.set i (.dat d))) = .ok () Γ' → ∃ W', Rel K ⟨c1.E, W', Γ', c1.σ.set i (some v), c1.H⟩ ∧ Stp c ⟨c1.E, W', Γ', c1.σ.set i (some v), c1.H⟩ := fun _ e => by
    cases es : esc l c1.Γ with
    | stuck => rw [es] at e; cases e
    | exn x Γ2 => exact (esc_ne es).elim
    | ok d Γ2 =>
      rw [es] at e
      cases e
      obtain ⟨W2, R2, S2, d2, _, _, _⟩ := R1.esc S1 V es
      have hi2 : i < Γ2.length := by
        have := R2.len
        have := R1.len
        simp only at *
        omega
      obtain ⟨R3, S3⟩ := R2.setDat d2 hi2
      exact ⟨W2, R3, S2.trans S3⟩
  cases V with
  | dat q => exact gen nofun e
  | ref q => exact gen nofun e
  | @new a d h0 hw hm ha =>
    cases e
    obtain ⟨R3, S3⟩ := R1.setNew S1 h0 (by rw [S1.ent]; exact R.ent0 h0) hw hm ha hi
    exact ⟨c1.W, R3, S3⟩
theorem store_ne {i : Nat} {l : Vl} {Γ Γ' : List Slot} {x : Xn} (e : store i l Γ = .exn x Γ') : False := by
  unfold store at e
  split at e
  · split at e
    · cases e
    · cases es : esc l Γ with
      | stuck => rw [es] at e; cases e
      | exn y Γ2 => exact esc_ne es
      | ok d Γ2 => rw [es] at e; cases e
  · cases e
theorem denS_set {i : Nat} {t : Tm} (h : denS K Wx n (.set i t) D σ H) : tAsg (den K Wx t) (gName i) D σ H := by
  obtain ⟨E, W, Γ, R, h⟩ := h
  simp only [ex] at h
  refine ⟨E, W, Γ, R, h.bindR.imp fun l c1 R1 S1 es h1 v V => ?_⟩
  obtain ⟨E1, W1, Γ1, σ1, H1⟩ := c1
  cases es
  obtain rfl : E1 = E := S1.ent
  cases e : store i l Γ1 with
  | stuck => rw [show (⟨E1, W1, Γ1, σ, H1⟩ : Cf).Γ = Γ1 from rfl, e] at h1; exact h1.elim
  | exn x Γ2 => exact (store_ne e).elim
  | ok u Γ2 =>
    rw [show (⟨E1, W1, Γ1, σ, H1⟩ : Cf).Γ = Γ1 from rfl, e] at h1
    obtain ⟨W2, R2, S2⟩ := store_ok R R1 S1 V e
    exact h1 W2 _ H1 R2 S2
theorem denS_unp {tg : Tg} {t : Tm} (h : denS K Wx n (.unp tg t) D σ H) : tAsg (den K Wx t) (denG K tg) D σ H := by
  obtain ⟨E, W, Γ, R, h⟩ := h
  simp only [ex] at h
  refine ⟨E, W, Γ, R, h.bindR.imp fun l c1 R1 S1 es h1 v V => ?_⟩
  obtain ⟨E1, W1, Γ1, σ1, H1⟩ := c1
  cases es
  obtain rfl : E1 = E := S1.ent
  dsimp only at h1
  cases e : res Γ1 l with
  | none => rw [e] at h1; exact h1.elim
  | some d =>
    rw [e] at h1
    cases d with
    | tup ds =>
      dsimp only at h1
      cases eb : bnd tg (.tup ds) Γ1 with
      | none => rw [eb] at h1; exact h1.elim
      | some Γ2 =>
        rw [eb] at h1
        have hd : Dr K W1 v (.tup ds) := by
          cases R1.top V e with
          | dat q => exact q
          | mt q => cases q
        exact ⟨E1, W1, Γ1, .tup ds, Γ2, R1, hd, eb, fun σ' R' S' _ => h1 W1 σ' H1 R' (S1.trans S')⟩
    | _ => exact h1.elim
theorem denS_drop {t : Tm} (h : denS K Wx n (.drop t) D σ H) : tDrop (den K Wx t) D σ H := by
  obtain ⟨E, W, Γ, R, h⟩ := h
  simp only [ex] at h
  refine ⟨E, W, Γ, R, h.bindR.imp fun l c1 R1 S1 es h1 v V => ?_⟩
  obtain ⟨E1, W1, Γ1, σ1, H1⟩ := c1
  cases es
  obtain rfl : E1 = E := S1.ent
  exact h1 W1 σ H1 R1 S1
theorem Rel.setNo {i : Nat} (R : Rel K c) : Rel K ⟨c.E, c.W, c.Γ.set i .no, c.σ, c.H⟩ ∧ Stp c ⟨c.E, c.W, c.Γ.set i .no, c.σ, c.H⟩ := by
  refine ⟨⟨by simp [R.len], R.le, R.ent, fun j d g => ?_, fun j b d g => ?_, fun j k a h1 h2 => R.dist j k a (isM_set no_nm h1).2 (isM_set no_nm h2).2⟩, ⟨rfl, Ex.refl _, fun _ _ h _ _ => h, fun _ h => h, fun _ h => .inl h, fun a h => ?_, fun a h => ?_, fun j b d g => ?_, fun j d g => ?_⟩⟩
  · rcases get_set g with ⟨_, e, _⟩ | ⟨_, e⟩
    · cases e
    · exact R.dat j d e
  · rcases g with g | g
    · rcases get_set g with ⟨_, e, _⟩ | ⟨_, e⟩
      · cases e
      · exact R.am j b d (.inl e)
    · rcases get_set g with ⟨_, e, _⟩ | ⟨_, e⟩
      · cases e
      · exact R.am j b d (.inr e)
  · obtain ⟨j, b, d, g, e⟩ := h
    rcases get_set g with ⟨_, z, _⟩ | ⟨_, z⟩
    · cases z
    · exact .inl ⟨j, b, d, z, e⟩
  · obtain ⟨j, g, e⟩ := h
    exact .inl ⟨j, (isM_set no_nm g).2, e⟩
  · rcases get_set g with ⟨_, z, _⟩ | ⟨_, z⟩
    · cases z
    · exact ⟨⟨d, z⟩, rfl⟩
  · rcases get_set g with ⟨_, z, _⟩ | ⟨_, z⟩
    · cases z
    · exact ⟨⟨d, z⟩, rfl⟩
theorem denS_ret {t : Tm} (h : denS K Wx n (.ret t) D σ H) : tRet (den K Wx t) D σ H := by
  obtain ⟨E, W, Γ, R, h⟩ := h
  simp only [ex] at h
  refine ⟨E, W, Γ, R, h.bindR.imp fun l c1 R1 S1 es h1 v V => ?_⟩
  obtain ⟨E1, W1, Γ1, σ1, H1⟩ := c1
  cases es
  obtain rfl : E1 = E := S1.ent
  dsimp only at h1
  cases V with
  | dat q => exact h1 W1 σ H1 R1 S1 v (.dat q)
  | @new a d h0 hw hm ha => exact h1 W1 σ H1 R1 S1 _ (.new (R.ent0 h0) hw hm ha)
  | @ref v i q =>
    unfold retV at h1
    dsimp only at h1
    cases g : Γ1[i]? with
    | none => rw [g] at h1; exact h1.elim
    | some s =>
      rw [g] at h1
      cases s with
      | no => exact h1.elim
      | lck b d => exact h1.elim
      | dat d =>
        obtain ⟨v', e1, e2⟩ := R1.dat i d g
        rw [q] at e1
        cases e1
        exact h1 W1 σ H1 R1 S1 v (.dat e2)
      | mt b d =>
        cases b with
        | false => exact h1.elim
        | true =>
          obtain ⟨a, e1, e2, e3, e4⟩ := R1.mt i true d g
          rw [q] at e1
          cases e1
          obtain ⟨R2, S2⟩ := R1.setNo (i := i)
          refine h1 W1 σ H1 R2 (S1.trans S2) _ (.new (e4 rfl) e2 (fun z => ?_) e3)
          obtain ⟨j, mj, ej⟩ := z
          obtain ⟨nj, mj⟩ := isM_set no_nm mj
          exact nj (R1.dist j i a mj ⟨true, d, .inl g⟩ ej q)
theorem denS_ite {t : Tm} {a b : Ss} (h : denS K Wx n (.ite t a b) D σ H) : tIfS (denT K Wx t) (denSs K Wx n a) (denSs K Wx n b) D σ H := by
  obtain ⟨E, W, Γ, R, h⟩ := h
  simp only [ex] at h
  refine ⟨E, W, Γ, R, h.bindR.imp fun l c1 R1 S1 es h1 => ?_⟩
  obtain ⟨E1, W1, Γ1, σ1, H1⟩ := c1
  cases es
  split at h1
  · refine ⟨true, rfl, ?_⟩
    dsimp only
    rw [if_pos rfl]
    exact ⟨E1, W1, Γ1, R1, h1.later S1⟩
  · refine ⟨false, rfl, ?_⟩
    dsimp only
    rw [if_neg Bool.false_ne_true]
    exact ⟨E1, W1, Γ1, R1, h1.later S1⟩
  · exact h1.elim
end
/-- x[k] = e by values -/
def rSt (K : PySem.W.Frag) (f : D → D → D → Option D) : TSet := fun o i v H Q =>
  ∃ a W d dk dv d', o = .ref a ∧ W a = none ∧ Le W H ∧ MutAt K W H a d ∧ Dr K W i dk ∧ Dr K W v dv ∧ f d dk dv = some d' ∧ ∀ W' H', MSt K W H a d' W' H' → Q H'
section
variable {K : PySem.W.Frag} {Wx : WX} {c c1 : Cf} {E0 : Ends} {σ : St} {H : Hp} {n : Nat}
theorem denS_sub {f : D → D → D → Option D} {i : Nat} {k t : Tm} (h : denS K Wx n (.sub f i k t) E0 σ H) : tAsg (den K Wx t) (gSub (tVar i) (den K Wx k) (rSt K f)) E0 σ H := by
  obtain ⟨E, W, Γ, R, h⟩ := h
  simp only [ex] at h
  split at h
  rotate_left
  · exact h.elim
  rename_i hmt
  obtain ⟨b0, d0, g0⟩ := isMt_iff hmt
  obtain ⟨a, ea, _⟩ := R.mt i b0 d0 g0
  refine ⟨E, W, Γ, R, h.bindR.imp fun l c1 R1 S1 es h1 v Vv => ?_⟩
  obtain ⟨E1, W1, Γ1, σ1, H1⟩ := c1
  cases es
  obtain rfl : E1 = E := S1.ent
  dsimp only at h1
  refine ⟨.ref a, ea, E1, W1, Γ1, R1, (PoS.bindAt h1 S1).imp fun lk c2 R2 S2 es2 h2 vk Vk => ?_⟩
  obtain ⟨E2, W2, Γ2, σ2, H2⟩ := c2
  cases es2
  obtain rfl : E2 = E1 := S2.ent
  dsimp only at h2
  cases ee : escA [l, lk] Γ2 with
  | stuck => rw [ee] at h2; exact h2.elim
  | exn x Γ3 => exact (escA_ne ee).elim
  | ok ds Γ3 =>
    rw [ee] at h2
    simp only [Rs.bind] at h2
    have wv : WVA K ⟨E2, W, Γ, σ, H⟩ ⟨E2, W2, Γ2, σ, H2⟩ [v, vk] [l, lk] := .cons (.inl (Vv.next S2 rfl)) (.cons (.inl (Vk.back S1.back)) .nil)
    obtain ⟨W3, R3, S3, d3, x3, _, _⟩ := Rel.escA R2 (S1.trans S2) wv ee
    cases d3 with
    | @cons _ _ dv _ hv r =>
      cases r with
      | @cons _ _ dk _ hk r =>
        cases r
        cases g3 : Γ3[i]? with
        | none => rw [g3] at h2; exact h2.elim
        | some s =>
          rw [g3] at h2
          cases s with
          | no => exact h2.elim
          | dat d => exact h2.elim
          | lck b d => exact h2.elim
          | mt b o =>
            dsimp only at h2
            cases ef : f o dk dv with
            | none => rw [ef] at h2; exact h2.elim
            | some o' =>
              rw [ef] at h2
              obtain ⟨a', z1, z2, z3, z4⟩ := R3.mt i b o g3
              have za : σ[i]? = some (some (V.ref a')) := z1
              rw [ea] at za
              cases za
              refine ⟨a, W3, o, dk, dv, o', rfl, z2, R3.le, z3, hk, hv, ef, fun W' H' m => ?_⟩
              obtain ⟨R4, S4⟩ := R3.mst g3 z1 m
              exact h2 W' σ H' R4 (S3.trans S4)
/-- unlocked behind a loop -/
theorem unloop {L : List Nat} {cE : Cf} (R1 : Rel K c1) (hL : ∀ i ∈ L, ∃ b d, c1.Γ[i]? = some (.mt b d)) (RE : Rel K cE) (SE : Stp ⟨c1.E, c1.W, lockA L c1.Γ, c1.σ, c1.H⟩ cE) :
    Rel K ⟨cE.E, cE.W, unlockA L cE.Γ, cE.σ, cE.H⟩ ∧ Stp c1 ⟨cE.E, cE.W, unlockA L cE.Γ, cE.σ, cE.H⟩ ∧ ∀ a, Cf.ad ⟨cE.E, cE.W, unlockA L cE.Γ, cE.σ, cE.H⟩ a → cE.ad a := by
  have ms : ∀ {j : Nat} {b : Bool} {d : D}, ((unlockA L cE.Γ)[j]? = some (.mt b d) ∨ (unlockA L cE.Γ)[j]? = some (.lck b d)) → (cE.Γ[j]? = some (.mt b d) ∨ cE.Γ[j]? = some (.lck b d)) := fun {j b d} h => by
    rcases h with z | z
    · rcases unlockA_get z with ⟨y, _⟩ | ⟨b', d', _, y, e⟩
      · exact .inl y
      · cases e; exact .inr y
    · rcases unlockA_get z with ⟨y, _⟩ | ⟨b', d', _, y, e⟩
      · exact .inr y
      · cases e
  have muL : ∀ {a}, Cf.mu ⟨c1.E, c1.W, lockA L c1.Γ, c1.σ, c1.H⟩ a → c1.mu a := fun {a} h => by
    obtain ⟨j, b, d, g, e⟩ := h
    rcases lockA_get g with ⟨y, _⟩ | ⟨_, _, _, _, y⟩
    · exact ⟨j, b, d, y, e⟩
    · cases y
  have adL : ∀ {a}, Cf.ad ⟨c1.E, c1.W, lockA L c1.Γ, c1.σ, c1.H⟩ a → c1.ad a := fun {a} h => by
    obtain ⟨j, ⟨b, d, g⟩, e⟩ := h
    refine ⟨j, ?_, e⟩
    rcases g with g | g
    · rcases lockA_get g with ⟨y, _⟩ | ⟨_, _, _, _, y⟩
      · exact ⟨b, d, .inl y⟩
      · cases y
    · rcases lockA_get g with ⟨y, _⟩ | ⟨b', d', _, y, _⟩
      · exact ⟨b, d, .inr y⟩
      · exact ⟨b', d', .inl y⟩
  have lkL : ∀ {j : Nat} {b : Bool} {d : D}, cE.Γ[j]? = some (.lck b d) → cE.σ[j]? = c1.σ[j]? ∧ ((j ∈ L ∧ ∃ d, c1.Γ[j]? = some (.mt b d)) ∨ ∃ d, c1.Γ[j]? = some (.lck b d)) := fun {j b d} g => by
    obtain ⟨⟨d', z⟩, e⟩ := SE.lk j b d g
    refine ⟨e, ?_⟩
    rcases lockA_get z with ⟨w, _⟩ | ⟨_, _, m, w, e⟩
    · exact .inr ⟨_, w⟩
    · cases e; exact .inl ⟨m, _, w⟩
  refine ⟨⟨?_, RE.le, RE.ent, fun j d g => ?_, fun j b d g => RE.am j b d (ms g), fun i j a h1 h2 e1 e2 => ?_⟩, ⟨SE.ent, SE.w, fun a o h n gd => SE.fr a o h (fun z => n (muL z)) gd, SE.th, fun a h => ?_, fun a h => ?_, fun a h => ?_, fun j b d g => ?_, fun j d g => ?_⟩, fun a h => ?_⟩
  · show (unlockA L cE.Γ).length = cE.σ.length
    rw [unlockA_len]; exact RE.len
  · rcases unlockA_get g with ⟨y, _⟩ | ⟨_, _, _, _, y⟩
    · exact RE.dat j d y
    · cases y
  · obtain ⟨b1, d1, h1⟩ := h1
    obtain ⟨b2, d2, h2⟩ := h2
    exact RE.dist i j a ⟨b1, d1, ms h1⟩ ⟨b2, d2, ms h2⟩ e1 e2
  · rcases SE.nw a h with z | z | z | z
    · exact .inl z
    · exact .inr (.inl z)
    · exact .inr (.inr (.inl (muL z)))
    · exact .inr (.inr (.inr z))
  · obtain ⟨j, b, d, g, e⟩ := h
    rcases unlockA_get g with ⟨z, _⟩ | ⟨b', d', m, z, _⟩
    · rcases SE.mu a ⟨j, b, d, z, e⟩ with y | y
      · exact .inl (muL y)
      · exact .inr y
    · obtain ⟨b2, d2, w⟩ := hL j m
      exact .inl ⟨j, b2, d2, w, (lkL z).1.symm.trans e⟩
  · obtain ⟨j, ⟨b, d, g⟩, e⟩ := h
    rcases SE.ad a ⟨j, ⟨b, d, ms g⟩, e⟩ with y | y
    · exact .inl (adL y)
    · exact .inr y
  · rcases unlockA_get g with ⟨y, w⟩ | ⟨_, _, _, _, y⟩
    · obtain ⟨e, x⟩ := lkL y
      rcases x with x | x
      · exact absurd rfl (w x.1 b d)
      · exact ⟨x, e⟩
    · cases y
  · rcases unlockA_get g with ⟨y, w⟩ | ⟨b', d', m, y, e⟩
    · obtain ⟨⟨d2, x⟩, es⟩ := SE.io j d y
      rcases lockA_get x with ⟨x, _⟩ | ⟨_, _, _, _, x⟩
      · exact ⟨⟨d2, x⟩, es⟩
      · cases x
    · cases e
      obtain ⟨es, x⟩ := lkL y
      rcases x with ⟨_, x⟩ | ⟨d2, x⟩
      · exact ⟨x, es⟩
      · obtain ⟨b3, d3, w⟩ := hL j m
        rw [x] at w; cases w
  · obtain ⟨j, ⟨b, d, g⟩, e⟩ := h
    exact ⟨j, ⟨b, d, ms g⟩, e⟩
theorem ORelE.of {c c' : Cf} {v : V} {o : Ou} (h : ORelE K c v o) (e : c'.E = c.E) (w : c'.W = c.W) (hh : c'.H = c.H) (ad : ∀ a, c'.ad a → c.ad a) : ORelE K c' v o := by
  cases h with
  | dat q => exact .dat (by rw [w]; exact q)
  | new h1 h2 h3 h4 => exact .new (by rw [e]; exact h1) (by rw [w]; exact h2) (fun z => h3 (ad _ z)) (by rw [w, hh]; exact h4)
theorem denS_for {g : List D → Option (List D)} {as : Ta} {tg : Tg} {b : Ss} (h : denS K Wx n (.for g as tg b) E0 σ H) : tFor (denI K Wx g as) (denG K tg) (denSs K Wx n b) E0 σ H := by
  obtain ⟨E, W, Γ, R, h⟩ := h
  simp only [ex] at h
  refine ⟨E, W, Γ, R, h.bindR.imp fun ls c1 R1 S1 es h1 => ?_⟩
  obtain ⟨E1, W1, Γ1, σ1, H1⟩ := c1
  cases es
  obtain rfl : E1 = E := S1.ent
  dsimp only at h1
  cases er : resA Γ1 ls with
  | none => rw [er] at h1; exact h1.elim
  | some ds =>
    rw [er] at h1
    dsimp only at h1
    cases eg : g ds with
    | none => rw [eg] at h1; exact h1.elim
    | some xs =>
      rw [eg] at h1
      dsimp only at h1
      refine ⟨ds, xs, rfl, eg, fun J W2 H2 p2 IT => ?_⟩
      obtain ⟨R2, S2⟩ := Rel.psl R1 p2
      dsimp only at R2 S2
      generalize hLk : locks Γ1 ls = L at h1
      have hL : ∀ i ∈ L, ∃ b d, Γ1[i]? = some (.mt b d) := fun i hi => by rw [← hLk] at hi; exact locks_mt hi
      have RL : Rel K ⟨E1, W2, lockA L Γ1, σ, H2⟩ := R2.lockA (L := L)
      have muLe : ∀ a, Cf.mu ⟨E1, W2, lockA L Γ1, σ, H2⟩ a → muL ⟨E1, W1, Γ1, σ, H1⟩ ls a := fun a ⟨j, b, d, gg, e⟩ => ⟨j, b, d, by rw [hLk]; exact gg, e⟩
      -- the end of the loop by some flow
      have fin : ∀ {W5 H5 : Hp} {Γ5 : List Slot} {σ5 : St} {f : Fl}, forLoop (exs n b) tg xs (lockA L Γ1) = .ok f Γ5 → Rel K ⟨E1, W5, Γ5, σ5, H5⟩ → Stp ⟨E1, W2, lockA L Γ1, σ, H2⟩ ⟨E1, W5, Γ5, σ5, H5⟩ →
          FlP K ⟨E1, W5, unlockA L Γ5, σ5, H5⟩ E0 f ∧ ∀ a, Cf.ad ⟨E1, W5, unlockA L Γ5, σ5, H5⟩ a → Cf.ad ⟨E1, W5, Γ5, σ5, H5⟩ a := fun {W5 H5 Γ5 σ5 f} e R5 S5 => by
        rw [e] at h1
        obtain ⟨R6, S6, a6⟩ := unloop (c1 := ⟨E1, W2, Γ1, σ, H2⟩) R2 hL R5 S5
        exact ⟨h1 W5 σ5 H5 R6 (S1.trans (S2.trans S6)), a6⟩
      refine ⟨fun i m σ' H' => m = xs.length - i ∧ i ≤ xs.length ∧ ∃ W' Γ', Rel K ⟨E1, W', Γ', σ', H'⟩ ∧ Stp ⟨E1, W2, lockA L Γ1, σ, H2⟩ ⟨E1, W', Γ', σ', H'⟩ ∧ forLoop (exs n b) tg xs (lockA L Γ1) = forLoop (exs n b) tg (xs.drop i) Γ',
        ⟨xs.length, by simp, Nat.zero_le _, W2, lockA L Γ1, RL, Stp.refl _, by rw [List.drop_zero]⟩, ?_⟩
      rintro i m σi Hi ⟨rfl, hi, Wi, Γi, Ri, Si, hlp⟩
      have kp : Frm W2 H2 (muL ⟨E1, W1, Γ1, σ, H1⟩ ls) Hi := ⟨Ex.le Si.w Ri.le, fun a o e nn gd => Si.fr a o e (fun z => nn (muLe a z)) gd⟩
      by_cases hlt : i < xs.length
      rotate_left
      · have ei : i = xs.length := by omega
        subst ei
        rw [List.drop_length] at hlp
        exact .inl ⟨IT.stop Hi kp, (fin hlp Ri Si).1⟩
      · have hx : xs[i]? = some xs[i] := List.getElem?_eq_getElem hlt
        have hdr : xs.drop i = xs[i] :: xs.drop (i + 1) := List.drop_eq_getElem_cons hlt
        rw [hdr] at hlp
        simp only [forLoop] at hlp
        have h1' := h1
        rw [hlp] at h1'
        refine .inr ⟨IT.go i Hi hlt kp, fun σ' H' => ∃ W' Γ', Rel K ⟨E1, W', Γ', σ', H'⟩ ∧ Stp ⟨E1, W2, lockA L Γ1, σ, H2⟩ ⟨E1, W', Γ', σ', H'⟩ ∧ forLoop (exs n b) tg xs (lockA L Γ1) = forLoop (exs n b) tg (xs.drop (i + 1)) Γ',
          fun σ' H' z => ⟨xs.length - (i + 1), by omega, rfl, hlt, z⟩, fun x H' y => ?_⟩
        obtain ⟨W3, p3, dx⟩ := IT.yl i Hi x H' xs[i] Wi hx kp y Si.w Ri.le
        obtain ⟨R3, S3⟩ := Ri.pst p3
        dsimp only at R3 S3
        cases eb : bnd tg xs[i] Γi with
        | none => rw [eb] at h1'; exact h1'.elim
        | some Γ4 =>
          rw [eb] at h1' hlp
          refine ⟨E1, W3, Γi, xs[i], Γ4, R3, dx, eb, fun σ4 R4 S4 s4 => ⟨E1, W3, Γ4, R4, ?_⟩⟩
          have SL4 : Stp ⟨E1, W2, lockA L Γ1, σ, H2⟩ ⟨E1, W3, Γ4, σ4, H'⟩ := Si.trans (S3.trans S4)
          dsimp only at h1' hlp
          cases ebd : exs n b Γ4 with
          | stuck => rw [ebd] at h1'; exact h1'.elim
          | exn x Γ5 =>
            rw [ebd] at h1'
            intro cls d W5 σ5 H5 R5 S5 X
            obtain ⟨R6, S6, _⟩ := unloop (c1 := ⟨E1, W2, Γ1, σ, H2⟩) R2 hL R5 (SL4.trans S5)
            exact h1' cls d W5 σ5 H5 R6 (S1.trans (S2.trans S6)) X
          | ok f Γ5 =>
            rw [ebd] at h1' hlp
            simp only [Rs.bind] at h1' hlp
            intro W5 σ5 H5 R5 S5
            have S5' := SL4.trans S5
            cases f with
            | nx => exact ⟨W5, Γ5, R5, S5', hlp⟩
            | ct => exact ⟨W5, Γ5, R5, S5', hlp⟩
            | bk => exact (fin hlp R5 S5').1
            | rt o =>
              intro v O
              obtain ⟨q1, q2⟩ := fin hlp R5 S5'
              exact q1 v (O.of rfl rfl rfl q2)
theorem denS_whl {t : Tm} {b : Ss} (h : denS K Wx n (.whl t b) E0 σ H) : tWhile (denT K Wx t) (denSs K Wx n b) E0 σ H := by
  obtain ⟨E, W, Γ, R, h⟩ := h
  simp only [ex] at h
  refine ⟨fun m σ' H' => ∃ W' Γ', Rel K ⟨E, W', Γ', σ', H'⟩ ∧ Stp ⟨E, W, Γ, σ, H⟩ ⟨E, W', Γ', σ', H'⟩ ∧ whlLoop (ev t) (exs n b) n Γ = whlLoop (ev t) (exs n b) m Γ', ⟨n, W, Γ, R, Stp.refl _, rfl⟩, ?_⟩
  rintro m σi Hi ⟨Wi, Γi, Ri, Si, hlp⟩
  have h1 := h
  rw [hlp] at h1
  cases m with
  | zero => exact h1.elim
  | succ m =>
    simp only [whlLoop] at h1 hlp
    refine ⟨E, Wi, Γi, Ri, ?_⟩
    cases ec : ev t Γi with
    | stuck => rw [ec] at h1; exact h1.elim
    | exn x Γ2 =>
      rw [ec] at h1
      intro cls d W2 H2 R2 S2 X
      exact h1 cls d W2 σi H2 R2 (Si.trans S2) X
    | ok l Γ2 =>
      rw [ec] at h1 hlp
      simp only [Rs.bind] at h1 hlp
      intro W2 H2 R2 S2
      dsimp only at R2 S2
      cases l with
      | ref _ => exact h1.elim
      | new _ => exact h1.elim
      | dat dl =>
        cases dl with
        | bl bb =>
          cases bb with
          | false =>
            refine ⟨false, rfl, ?_⟩
            dsimp only
            rw [if_neg Bool.false_ne_true]
            exact h1 W2 σi H2 R2 (Si.trans S2)
          | true =>
            refine ⟨true, rfl, ?_⟩
            dsimp only
            rw [if_pos rfl]
            simp only at h1 hlp
            refine ⟨fun σ' H' => ∃ W' Γ', Rel K ⟨E, W', Γ', σ', H'⟩ ∧ Stp ⟨E, W, Γ, σ, H⟩ ⟨E, W', Γ', σ', H'⟩ ∧ whlLoop (ev t) (exs n b) n Γ = whlLoop (ev t) (exs n b) m Γ', fun σ' H' z => ⟨m, Nat.lt_succ_self m, z⟩, E, W2, Γ2, R2, ?_⟩
            have S02 := Si.trans S2
            cases ebd : exs n b Γ2 with
            | stuck => rw [ebd] at h1; exact h1.elim
            | exn x Γ5 =>
              rw [ebd] at h1
              intro cls d W5 σ5 H5 R5 S5 X
              exact h1 cls d W5 σ5 H5 R5 (S02.trans S5) X
            | ok f Γ5 =>
              rw [ebd] at h1 hlp
              simp only [Rs.bind] at h1 hlp
              intro W5 σ5 H5 R5 S5
              have S05 := S02.trans S5
              cases f with
              | nx => exact ⟨W5, Γ5, R5, S05, hlp⟩
              | ct => exact ⟨W5, Γ5, R5, S05, hlp⟩
              | bk => exact h1 W5 σ5 H5 R5 S05
              | rt o => exact h1 W5 σ5 H5 R5 S05
        | _ => exact h1.elim
theorem denS_brk (h : denS K Wx n .brk E0 σ H) : tBreak E0 σ H := by
  obtain ⟨E, W, Γ, R, h⟩ := h
  exact h W σ H R (Stp.refl _)
theorem denS_cnt (h : denS K Wx n .cnt E0 σ H) : tCont E0 σ H := by
  obtain ⟨E, W, Γ, R, h⟩ := h
  exact h W σ H R (Stp.refl _)
theorem denS_pas (h : denS K Wx n .pas E0 σ H) : tNext E0 σ H := by
  obtain ⟨E, W, Γ, R, h⟩ := h
  exact h W σ H R (Stp.refl _)
theorem denS_nev (h : denS K Wx n .nev E0 σ H) : tNever E0 σ H := by
  obtain ⟨E, W, Γ, R, h⟩ := h
  exact h
/-- a value that is no slot's, stored; another such value stays -/
theorem store_vrel {i : Nat} {l m : Vl} {v w : V} {Γ' : List Slot} (R : Rel K c) (R1 : Rel K c1) (S1 : Stp c c1) (V1 : VRel K c c1 v l) (nl : ∀ q, l ≠ .ref q) (e : store i l c1.Γ = .ok () Γ') :
    ∃ W', Rel K ⟨c1.E, W', Γ', c1.σ.set i (some v), c1.H⟩ ∧ Stp c ⟨c1.E, W', Γ', c1.σ.set i (some v), c1.H⟩ ∧
      (VRel K c c1 w m → (∀ q, m ≠ .ref q) → (∀ d d', l = .new d → (v, Vl.new d') ≠ (w, m)) → VRel K c ⟨c1.E, W', Γ', c1.σ.set i (some v), c1.H⟩ w m) := by
  unfold store at e
  split at e
  rotate_left
  · cases e
  rename_i hi
  cases V1 with
  | @ref v q _ => exact absurd rfl (nl q)
  | @dat v d hd =>
    simp only [esc, Rs.bind] at e
    cases e
    obtain ⟨R2, T2⟩ := R1.setDat hd hi
    refine ⟨c1.W, R2, S1.trans T2, fun V2 nm _ => ?_⟩
    cases V2 with
    | ref _ => exact absurd rfl (nm _)
    | dat q => exact .dat q
    | new h0 hw hn ha =>
      refine .new h0 hw (fun z => ?_) ha
      rcases T2.ad _ z with y | y
      · exact hn y
      · exact ha.ne y
  | @new a d h0 hw hn ha =>
    cases e
    obtain ⟨R2, S2⟩ := R1.setNew S1 h0 (by rw [S1.ent]; exact R.ent0 h0) hw hn ha hi
    refine ⟨c1.W, R2, S2, fun V2 nm hd => ?_⟩
    cases V2 with
    | ref _ => exact absurd rfl (nm _)
    | dat q => exact .dat q
    | @new a2 d2 h02 hw2 hn2 ha2 =>
      refine .new h02 hw2 (fun z => ?_) ha2
      obtain ⟨j, ⟨b, dd, g⟩, ej⟩ := z
      by_cases q : j = i
      · subst q
        have ej' : (c1.σ.set j (some (V.ref a)))[j]? = some (some (V.ref a2)) := ej
        rw [List.getElem?_set_self (by rw [← R1.len]; exact hi)] at ej'
        cases ej'
        exact hd d d2 rfl rfl
      · have ej' : (c1.σ.set i (some (V.ref a)))[j]? = some (some (V.ref a2)) := ej
        rw [List.getElem?_set_ne (Ne.symm q)] at ej'
        rw [List.getElem?_set_ne (Ne.symm q)] at g
        exact hn2 ⟨j, ⟨b, dd, g⟩, ej'⟩
theorem storeA_cons {i : Nat} {is : List Nat} {l : Vl} {ls : List Vl} {Γ : List Slot} (nl : ∀ q, l ≠ .ref q) : storeA (i :: is) (l :: ls) Γ = (store i l Γ).bind fun _ Γ1 => storeA is ls Γ1 := by
  cases l with
  | ref q => exact absurd rfl (nl q)
  | dat d => rfl
  | new d => rfl
/-- a, b = x, y -/
theorem denS_par2 {i j : Nat} {as : Ta} (h : denS K Wx n (.par [i, j] as) E0 σ H) : tPar i j (denA K Wx as) E0 σ H := by
  obtain ⟨E, W, Γ, R, h⟩ := h
  simp only [ex] at h
  refine ⟨E, W, Γ, R, h.bindR.imp fun ls c1 R1 S1 es h1 vs Vs => ?_⟩
  obtain ⟨E1, W1, Γ1, σ1, H1⟩ := c1
  cases es
  obtain rfl : E1 = E := S1.ent
  dsimp only at h1
  cases Vs with
  | nil => exact h1.elim
  | @cons v vs l ls V1 r n1 =>
    have nr : ∀ q, l ≠ .ref q := fun q e => by subst e; exact h1.elim
    rw [storeA_cons nr] at h1
    cases es1 : store i l Γ1 with
    | stuck => rw [es1] at h1; exact h1.elim
    | exn x Γ2 => exact (store_ne es1).elim
    | ok u Γ2 =>
      rw [es1] at h1
      simp only [Rs.bind] at h1
      cases r with
      | nil => exact h1.elim
      | @cons w vs2 m ls2 V2 r2 n2 =>
        have nr2 : ∀ q, m ≠ .ref q := fun q e => by subst e; exact h1.elim
        rw [storeA_cons nr2] at h1
        obtain ⟨W2, R2, S2, k2⟩ := store_vrel (w := w) (m := m) R R1 S1 V1 nr es1
        have V2' := k2 V2 nr2 fun d d' e z => n1 d d' e (by rw [z]; exact List.mem_cons_self)
        cases es2 : store j m Γ2 with
        | stuck => rw [es2] at h1; exact h1.elim
        | exn x Γ3 => exact (store_ne es2).elim
        | ok u Γ3 =>
          rw [es2] at h1
          simp only [Rs.bind] at h1
          cases r2 with
          | cons _ _ _ => exact h1.elim
          | nil =>
            obtain ⟨W3, R3, S3⟩ := store_ok R R2 S2 V2' es2
            exact ⟨v, w, rfl, h1 W3 _ H1 R3 S3⟩
end
end MP

end
-- MP9
section
/-! MP9: a def keeps its promise. -/
namespace MP
open PySem L2
section
variable {K : PySem.W.Frag} {W H : Hp}
theorem initG_get : ∀ {io : List Bool} {vs : List V} {ds : List D} {i : Nat} {s : Slot}, ArgR K W H io vs ds → (initG io ds)[i]? = some s →
    (∃ v d, vs[i]? = some v ∧ s = .dat d ∧ Dr K W v d) ∨ (∃ a d, vs[i]? = some (.ref a) ∧ io[i]? = some true ∧ s = .mt false d ∧ W a = none ∧ MutAt K W H a d)
  | _, _, _, i, s, .nil, e => by simp [initG] at e
  | _, _, _, 0, s, .dat h r, e => by
    simp only [initG, List.getElem?_cons_zero] at e
    cases e
    exact .inl ⟨_, _, rfl, rfl, h⟩
  | _, _, _, i + 1, s, .dat h r, e => by
    simp only [initG, List.getElem?_cons_succ] at e
    rcases initG_get r e with ⟨v, d, h1, h2, h3⟩ | ⟨a, d, h1, h2, h3⟩
    · exact .inl ⟨v, d, by simpa using h1, h2, h3⟩
    · exact .inr ⟨a, d, by simpa using h1, by simpa using h2, h3⟩
  | _, _, _, 0, s, .io h1 h2 r, e => by
    simp only [initG, List.getElem?_cons_zero] at e
    cases e
    exact .inr ⟨_, _, rfl, rfl, rfl, h1, h2⟩
  | _, _, _, i + 1, s, .io _ _ r, e => by
    simp only [initG, List.getElem?_cons_succ] at e
    rcases initG_get r e with ⟨v, d, h1, h2, h3⟩ | ⟨a, d, h1, h2, h3⟩
    · exact .inl ⟨v, d, by simpa using h1, h2, h3⟩
    · exact .inr ⟨a, d, by simpa using h1, by simpa using h2, h3⟩
theorem initG_len : ∀ {io : List Bool} {vs : List V} {ds : List D}, ArgR K W H io vs ds → (initG io ds).length = vs.length
  | _, _, _, .nil => rfl
  | _, _, _, .dat _ r => by simp [initG, initG_len r]
  | _, _, _, .io _ _ r => by simp [initG, initG_len r]
theorem ioA_mem : ∀ {io : List Bool} {vs : List V} {i : Nat} {a : Addr}, io[i]? = some true → vs[i]? = some (.ref a) → a ∈ ioA io vs
  | [], _, i, _, e, _ => by simp at e
  | b :: io, [], i, _, _, e => by simp at e
  | b :: io, v :: vs, 0, a, e1, e2 => by
    simp at e1 e2
    subst e1 e2
    exact List.mem_cons_self
  | b :: io, v :: vs, i + 1, a, e1, e2 => by
    have q := ioA_mem (io := io) (vs := vs) (i := i) (a := a) (by simpa using e1) (by simpa using e2)
    cases b with
    | true =>
      cases v with
      | ref x => exact List.mem_cons_of_mem _ q
      | _ => exact q
    | false => cases v <;> exact q
theorem ioA_ix : ∀ {io : List Bool} {vs : List V} {a : Addr}, a ∈ ioA io vs → ∃ i : Nat, io[i]? = some true ∧ vs[i]? = some (.ref a)
  | [], _, _, h => by simp [ioA] at h
  | b :: io, [], _, h => by cases b <;> simp [ioA] at h
  | b :: io, v :: vs, a, h => by
    have tail : a ∈ ioA io vs → ∃ i : Nat, (b :: io)[i]? = some true ∧ (v :: vs)[i]? = some (.ref a) := fun q => by
      obtain ⟨i, h1, h2⟩ := ioA_ix q
      exact ⟨i + 1, by simpa using h1, by simpa using h2⟩
    cases b with
    | true =>
      cases v with
      | ref x =>
        rcases List.mem_cons.mp h with z | z
        · subst z; exact ⟨0, rfl, rfl⟩
        · exact tail z
      | _ => exact tail h
    | false => cases v <;> exact tail h
theorem ioA_inj : ∀ {io : List Bool} {vs : List V} {i j : Nat} {a : Addr}, (ioA io vs).Nodup → io[i]? = some true → io[j]? = some true → vs[i]? = some (.ref a) → vs[j]? = some (.ref a) → i = j
  | [], _, i, _, _, _, e, _, _, _ => by simp at e
  | b :: io, [], _, _, _, _, _, _, e, _ => by simp at e
  | b :: io, v :: vs, 0, 0, _, _, _, _, _, _ => rfl
  | b :: io, v :: vs, 0, j + 1, a, n, e1, e2, e3, e4 => by
    simp at e1 e3
    subst e1 e3
    have q := ioA_mem (io := io) (vs := vs) (i := j) (a := a) (by simpa using e2) (by simpa using e4)
    exact absurd q (List.nodup_cons.mp n).1
  | b :: io, v :: vs, i + 1, 0, a, n, e1, e2, e3, e4 => by
    simp at e2 e4
    subst e2 e4
    have q := ioA_mem (io := io) (vs := vs) (i := i) (a := a) (by simpa using e1) (by simpa using e3)
    exact absurd q (List.nodup_cons.mp n).1
  | b :: io, v :: vs, i + 1, j + 1, a, n, e1, e2, e3, e4 => by
    have n' : (ioA io vs).Nodup := by
      cases b with
      | true =>
        cases v with
        | ref x => exact (List.nodup_cons.mp n).2
        | _ => exact n
      | false => cases v <;> exact n
    have q := ioA_inj (io := io) (vs := vs) (i := i) (j := j) (a := a) n' (by simpa using e1) (by simpa using e2) (by simpa using e3) (by simpa using e4)
    rw [q]
/-- the in-out parameters at the end -/
theorem ioOut_ok {W' H' : Hp} : ∀ {io : List Bool} {vs : List V} {Γ : List Slot} {ios : List D}, io.length = vs.length → (∀ i : Nat, io[i]? = some true → ∃ a, vs[i]? = some (V.ref a)) →
    (∀ (i : Nat) (d : D) (a : Addr), io[i]? = some true → Γ[i]? = some (.mt false d) → vs[i]? = some (.ref a) → W' a = none ∧ MutAt K W' H' a d) → ioOut io Γ = some ios → IoR K W' H' (ioA io vs) ios
  | [], _, _, _, _, _, _, e => by
    simp only [ioOut] at e
    cases e
    exact .nil
  | b :: io, [], _, _, hl, _, _, _ => by simp at hl
  | false :: io, v :: vs, [], ios, _, _, _, e => by simp [ioOut] at e
  | false :: io, v :: vs, s :: Γ, ios, hl, hv, h, e => by
    have e' : ioOut io Γ = some ios := by
      unfold ioOut at e
      exact e
    have q := ioOut_ok (io := io) (vs := vs) (Γ := Γ) (by simpa using hl) (fun i hi => by simpa using hv (i + 1) (by simpa using hi)) (fun i d a h1 h2 h3 => h (i + 1) d a (by simpa using h1) (by simpa using h2) (by simpa using h3)) e'
    cases v <;> exact q
  | true :: io, v :: vs, [], ios, _, _, _, e => by simp [ioOut] at e
  | true :: io, v :: vs, s :: Γ, ios, hl, hv, h, e => by
    cases s with
    | mt b d =>
      cases b with
      | false =>
        unfold ioOut at e
        cases q : ioOut io Γ with
        | none => rw [q] at e; cases e
        | some ios' =>
          rw [q] at e
          cases e
          obtain ⟨a, ha⟩ := hv 0 rfl
          simp at ha
          subst ha
          obtain ⟨z1, z2⟩ := h 0 d a rfl rfl rfl
          exact .cons z1 z2 (ioOut_ok (by simpa using hl) (fun i hi => by simpa using hv (i + 1) (by simpa using hi)) (fun i d a h1 h2 h3 => h (i + 1) d a (by simpa using h1) (by simpa using h2) (by simpa using h3)) q)
      | true => simp [ioOut] at e
    | _ => simp [ioOut] at e
theorem ioOut_io : ∀ {io : List Bool} {Γ : List Slot} {ios : List D} {i : Nat}, ioOut io Γ = some ios → io[i]? = some true → ∃ d, Γ[i]? = some (.mt false d)
  | [], _, _, i, _, e => by simp at e
  | false :: io, [], ios, i, e, _ => by simp [ioOut] at e
  | true :: io, [], ios, i, e, _ => by simp [ioOut] at e
  | false :: io, s :: Γ, ios, 0, e, h => by simp at h
  | false :: io, s :: Γ, ios, i + 1, e, h => by
    have e' : ioOut io Γ = some ios := by unfold ioOut at e; exact e
    obtain ⟨d, z⟩ := ioOut_io e' (i := i) (by simpa using h)
    exact ⟨d, by simpa using z⟩
  | true :: io, s :: Γ, ios, i, e, h => by
    cases s with
    | mt b d =>
      cases b with
      | false =>
        unfold ioOut at e
        cases q : ioOut io Γ with
        | none => rw [q] at e; cases e
        | some ios' =>
          cases i with
          | zero => exact ⟨d, rfl⟩
          | succ i =>
            obtain ⟨d', z⟩ := ioOut_io q (i := i) (by simpa using h)
            exact ⟨d', by simpa using z⟩
      | true => simp [ioOut] at e
    | _ => simp [ioOut] at e
theorem ArgR.ioV : ∀ {io : List Bool} {vs : List V} {ds : List D} {i : Nat}, ArgR K W H io vs ds → io[i]? = some true → ∃ a, vs[i]? = some (.ref a)
  | _, _, _, i, .nil, e => by simp at e
  | _, _, _, 0, .dat _ _, e => by simp at e
  | _, _, _, 0, .io _ _ _, _ => ⟨_, rfl⟩
  | _, _, _, i + 1, .dat _ r, e => by
    obtain ⟨a, z⟩ := ArgR.ioV (i := i) r (by simpa using e)
    exact ⟨a, by simpa using z⟩
  | _, _, _, i + 1, .io _ _ r, e => by
    obtain ⟨a, z⟩ := ArgR.ioV (i := i) r (by simpa using e)
    exact ⟨a, by simpa using z⟩
/-- the slots at a def's entry -/
theorem rel_start {N : List Str} {io : List Bool} {vs : List V} {ds : List D} (l : Le W H) (A : ArgR K W H io vs ds) (nd : (ioA io vs).Nodup) (hN : vs.length ≤ N.length) :
    Rel K ⟨H, W, initG io ds ++ List.replicate (N.length - vs.length) .no, start N vs, H⟩ := by
  have hl := initG_len A
  have sl : ∀ {i : Nat} {s : Slot}, (initG io ds ++ List.replicate (N.length - vs.length) Slot.no)[i]? = some s → s = .no ∨ (initG io ds)[i]? = some s := fun {i s} h => by
    by_cases q : i < (initG io ds).length
    · rw [List.getElem?_append_left q] at h
      exact .inr h
    · rw [List.getElem?_append_right (by omega), List.getElem?_replicate] at h
      split at h
      · cases h; exact .inl rfl
      · cases h
  have sv : ∀ {i : Nat} {v : V}, vs[i]? = some v → (start N vs)[i]? = some (some v) := fun {i v} h => by
    unfold L2.start
    have hi : i < vs.length := (List.getElem?_eq_some_iff.mp h).1
    rw [List.getElem?_append_left (by simpa using hi), List.getElem?_map, h]
    rfl
  have mt : ∀ {i : Nat} {a : Addr}, IsM (initG io ds ++ List.replicate (N.length - vs.length) Slot.no) i → (start N vs)[i]? = some (some (V.ref a)) → io[i]? = some true ∧ vs[i]? = some (.ref a) := fun {i a} h e => by
    obtain ⟨b, d, h⟩ := h
    have h' : ∃ s, (initG io ds)[i]? = some s ∧ (s = .mt b d ∨ s = .lck b d) := by
      rcases h with h | h
      · rcases sl h with z | z
        · cases z
        · exact ⟨_, z, .inl rfl⟩
      · rcases sl h with z | z
        · cases z
        · exact ⟨_, z, .inr rfl⟩
    obtain ⟨s, h1, h2⟩ := h'
    rcases initG_get A h1 with ⟨v, d', z1, z2, _⟩ | ⟨a', d', z1, z2, z3, _⟩
    · subst z2
      rcases h2 with h2 | h2 <;> cases h2
    · rw [sv z1] at e
      cases e
      exact ⟨z2, z1⟩
  refine ⟨?_, l, fun a h => h, fun i d g => ?_, fun i b d g => ?_, fun i j a h1 h2 e1 e2 => ?_⟩
  · show (initG io ds ++ List.replicate (N.length - vs.length) Slot.no).length = (start N vs).length
    unfold L2.start
    simp [hl]
  · rcases sl g with z | z
    · cases z
    · rcases initG_get A z with ⟨v, d', z1, z2, z3⟩ | ⟨a', d', _, _, z3, _⟩
      · cases z2
        exact ⟨v, sv z1, z3⟩
      · cases z3
  · rcases g with g | g
    · rcases sl g with z | z
      · cases z
      · rcases initG_get A z with ⟨v, d', _, z2, _⟩ | ⟨a', d', z1, z2, z3, z4, z5⟩
        · cases z2
        · cases z3
          exact ⟨a', sv z1, z4, z5, nofun⟩
    · rcases sl g with z | z
      · cases z
      · rcases initG_get A z with ⟨v, d', _, z2, _⟩ | ⟨a', d', z1, z2, z3, z4, z5⟩
        · cases z2
        · cases z3
  · obtain ⟨p1, q1⟩ := mt h1 e1
    obtain ⟨p2, q2⟩ := mt h2 e2
    exact ioA_inj nd p1 p2 q1 q2
end
/-- what a context must be for the compiled code -/
structure Cok (P : Program) (w : World) (K : PySem.W.Frag) (mg : Str → Option Value) (base : Heap) (k : Nat) (N : List Str) (sc : Scope) (X : Cx) (Wx : WX) : Prop where
  p : X.prog = P
  w : X.w = w
  kk : X.K = K
  m : X.mg = mg
  b : X.base = base
  n : X.N = N
  nd : N.Nodup
  sc : X.env.scope = sc
  calm : X.calm = true
  room : Room k X.A
  gd : X.A.guards = some []
  own : PassesOwn (model X.prog X.w) X.A X.env X.xe
  tk : Takes X Wx
/-- the reading of a def's compiled body at its entry -/
theorem spF_start {K : PySem.W.Frag} {N ps : List Str} {n : Nat} {io : List Bool} {sm : Ss} {vs : List V} {H : Hp} {Q : VK} {E : XK} (hio : io.length = ps.length) (hpl : ps.length ≤ N.length) (h : spF K ⟨io, runF io (N.length - ps.length) n sm⟩ vs H Q E) :
    denSs K (fun cls d _ H => E cls d H) n sm { nx := fun _ H' => Q .non H', rt := Q } (start N vs) H := by
  obtain ⟨W, ds, l, a, nd, h⟩ := h
  have al := a.length
  have hvl : vs.length = ps.length := by rw [al.1]; exact hio
  have R := rel_start (N := N) l a nd (by omega)
  refine ⟨H, W, _, R, ?_⟩
  have hds : ds.length = io.length := al.2
  simp only [runF, if_pos hds] at h
  rw [show N.length - ps.length = N.length - vs.length by omega] at h
  -- what a changeable slot at the entry is
  have muA : ∀ b, Cf.mu ⟨H, W, initG io ds ++ List.replicate (N.length - vs.length) .no, start N vs, H⟩ b → b ∈ ioA io vs := fun b hm => by
    obtain ⟨i, bb, d, g, e⟩ := hm
    obtain ⟨b', e1, _, _, _⟩ := R.mt i bb d g
    have gi : (initG io ds)[i]? = some (.mt bb d) := by
      by_cases q : i < (initG io ds).length
      · rwa [List.getElem?_append_left q] at g
      · rw [List.getElem?_append_right (by omega), List.getElem?_replicate] at g
        split at g <;> cases g
    rcases initG_get a gi with ⟨v, d', _, z2, _⟩ | ⟨a', d', z1, z2, z3, _⟩
    · cases z2
    · have sv : (start N vs)[i]? = some (some (V.ref a')) := by
        unfold L2.start
        have hi : i < vs.length := (List.getElem?_eq_some_iff.mp z1).1
        rw [List.getElem?_append_left (by simpa using hi), List.getElem?_map, z1]
        rfl
      have e' : (start N vs)[i]? = some (some (V.ref b)) := e
      rw [sv] at e'
      cases e'
      exact ioA_mem z2 z1
  -- the end of the body
  have fin : ∀ {W' H' : Hp} {Γ' : List Slot} {σ' : St} {ios : List D}, ioOut io Γ' = some ios → Rel K ⟨H, W', Γ', σ', H'⟩ → Stp ⟨H, W, initG io ds ++ List.replicate (N.length - vs.length) .no, start N vs, H⟩ ⟨H, W', Γ', σ', H'⟩ →
      FSt W H (ioA io vs) W' H' ∧ IoR K W' H' (ioA io vs) ios := fun {W' H' Γ' σ' ios} e R' S' => by
    have at_ : ∀ (i : Nat) (d : D) (b : Addr), io[i]? = some true → Γ'[i]? = some (.mt false d) → vs[i]? = some (.ref b) → W' b = none ∧ MutAt K W' H' b d := fun i d b h1 h2 h3 => by
      obtain ⟨_, es⟩ := S'.io i d h2
      obtain ⟨b', e1, e2, e3, _⟩ := R'.mt i false d h2
      have sv : (start N vs)[i]? = some (some (V.ref b)) := by
        unfold L2.start
        have hi : i < vs.length := (List.getElem?_eq_some_iff.mp h3).1
        rw [List.getElem?_append_left (by simpa using hi), List.getElem?_map, h3]
        rfl
      have e1' : σ'[i]? = some (some (V.ref b')) := e1
      rw [show σ'[i]? = (start N vs)[i]? from es, sv] at e1'
      cases e1'
      exact ⟨e2, e3⟩
    refine ⟨⟨S'.w, R'.le, fun b o h1 h2 gd => S'.fr b o h1 (fun z => h2 (muA b z)) gd, S'.th, fun b hb => ?_⟩, ioOut_ok al.1.symm (fun i hi => a.ioV hi) at_ e⟩
    rcases S'.nw b hb with z | z | z | z
    · exact .inl z
    · exact .inr (.inl z)
    rotate_left
    · exact .inr (.inr z)
    · obtain ⟨i, h1, h2⟩ := ioA_ix (muA b z)
      obtain ⟨d, h3⟩ := ioOut_io e h1
      exact absurd (at_ i d b h1 h3 h2).1 hb
  cases ee : exs n sm (initG io ds ++ List.replicate (N.length - vs.length) .no) with
  | stuck => rw [ee] at h; exact h.elim
  | exn y Γ' =>
    rw [ee] at h
    dsimp only at h
    cases eo : ioOut io Γ' with
    | none => rw [eo] at h; exact h.elim
    | some ios =>
      rw [eo] at h
      intro cls d W' σ' H' R' S' X
      obtain ⟨f1, f2⟩ := fin eo R' S'
      exact h cls d W' H' f1 f2 X
  | ok f Γ' =>
    rw [ee] at h
    dsimp only at h
    cases eo : ioOut io Γ' with
    | none => rw [eo] at h; exact h.elim
    | some ios =>
      rw [eo] at h
      dsimp only at h
      intro W' σ' H' R' S'
      obtain ⟨f1, f2⟩ := fin eo R' S'
      cases f with
      | nx => exact h .non W' H' f1 f2 (.dat .non)
      | rt o =>
        intro v O
        refine h v W' H' f1 f2 ?_
        cases O with
        | dat q => exact .dat q
        | new h1 h2 h3 h4 => exact .new h1 h2 h4
      | bk => exact h.elim
      | ct => exact h.elim
end MP

end
-- MPA
section
/-! MPA: from the text to the small language. -/
namespace MP
open PySem L2
/-- the scope that code stands in, and which names it may store -/
structure Sv where
  sc : Scope
  asg : Str → Bool
structure Ct where
  N : List Str
  fns : List ((Str × Nat) × Fn)
  flds : List (Str × List Str)
  con : List (Str × D)
  cmp : CmpOp → List D → Option Ou
  csp : Scope → Pos → CmpOp → Expr → Expr → Option ((Ta → Tm) × List Expr)
  spec : Scope → Expr → Option ((Ta → Tm) × List Expr)
  isp : Scope → Expr → Expr → Option ((List D → Option (List D)) × (Ta → Ta) × List Expr)
  msp : Scope → Expr → Option (Str × (D → Bool) × (D → List D → Option (D × Ou)) × List Expr)
  sst : D → D → D → Option D
def ixOf (N : List Str) (x : Str) : Option Nat := match N with
  | [] => none
  | y :: r => if x = y then some 0 else (ixOf r x).map (· + 1)
theorem ixOf_get : ∀ {N : List Str} {x : Str} {i : Nat}, ixOf N x = some i → N[i]? = some x
  | [], _, _, h => by simp [ixOf] at h
  | y :: r, x, i, h => by
    unfold ixOf at h
    split at h
    · rename_i e
      cases h
      simp [e]
    · cases q : ixOf r x with
      | none => rw [q] at h; cases h
      | some j =>
        rw [q] at h
        cases h
        simpa using ixOf_get q
def visB (sc : Scope) (x : Str) : Bool := match sc.names.lookup x with
  | some .local => true
  | some .cell => true
  | some .free => true
  | _ => false
theorem visB_ok {sc : Scope} {x : Str} (h : visB sc x = true) : Vis sc x := by
  unfold visB at h
  unfold Vis
  cases q : sc.names.lookup x with
  | none => rw [q] at h; cases h
  | some k =>
    rw [q] at h
    cases k with
    | «local» => exact .inl rfl
    | cell => exact .inr (.inl rfl)
    | free => exact .inr (.inr rfl)
    | _ => cases h
def locB (sc : Scope) (x : Str) : Bool := match sc.names.lookup x with
  | some .local => true
  | some .cell => true
  | _ => false
theorem locB_ok {sc : Scope} {x : Str} (h : locB sc x = true) : L2.Loc sc x := by
  unfold locB at h
  unfold L2.Loc
  cases q : sc.names.lookup x with
  | none => rw [q] at h; cases h
  | some k =>
    rw [q] at h
    cases k with
    | «local» => exact .inl rfl
    | cell => exact .inr rfl
    | _ => cases h
def glB (sc : Scope) (x : Str) : Bool := match sc.names.lookup x with
  | some .globalImplicit => true
  | _ => false
theorem glB_ok {X : Cx} {x : Str} (h : glB X.env.scope x = true) : Gl X x := by
  unfold glB at h
  unfold Gl
  show X.env.scope.names.lookup x = some .globalImplicit
  cases q : X.env.scope.names.lookup x with
  | none => rw [q] at h; cases h
  | some k =>
    rw [q] at h
    cases k with
    | globalImplicit => rfl
    | _ => cases h
def nmB (x : Str) : Bool := !(x == ("__debug__" : Str)) && !(x == ("__classdict__" : Str))
theorem nmB_ok {x : Str} (h : nmB x = true) : (x == ("__debug__" : Str)) = false ∧ (x == ("__classdict__" : Str)) = false := by
  unfold nmB at h
  simp only [Bool.and_eq_true, Bool.not_eq_true'] at h
  exact h
def constD : Const → Option D
  | .none => some .non
  | .bool b => some (.bl b)
  | .int i => some (.int i)
  | .str x => some (.str x)
  | _ => none
def notStar : Expr → Bool
  | .Starred _ _ => false
  | _ => true
def notSet : Expr → Bool
  | .Set _ _ _ => false
  | _ => true
def notComp : Expr → Bool
  | .ListComp _ _ _ _ => false
  | .SetComp _ _ _ _ => false
  | .DictComp _ _ _ _ _ => false
  | _ => true
def notSlice : Expr → Bool
  | .Slice _ _ _ _ => false
  | _ => true
def cArgs (f : Expr → Option Tm) : List Expr → Option Ta
  | [] => some .nil
  | e :: es => match f e, cArgs f es with
    | some t, some r => some (.cons t r)
    | _, _ => none
def mkB : BoolOp → Tm → Tm → Tm
  | .And, a, b => .and a b
  | .Or, a, b => .or a b
def cBools (f : Expr → Option Tm) (op : BoolOp) : List Expr → Option Tm
  | [] => none
  | a :: r => match r with
    | [] => f a
    | _ :: _ => (match f a, cBools f op r with
      | some t, some u => some (mkB op t u)
      | _, _ => none)
def cTgs (f : Expr → Option Tg) : List Expr → Option Tg
  | [] => some .nil
  | e :: es => match f e, cTgs f es with
    | some t, some r => some (.cons t r)
    | _, _ => none
def cTg (N : List Str) (sv : Sv) : Nat → Expr → Option Tg
  | 0, _ => none
  | n + 1, e => match e with
    | .Name x _ => (match ixOf N x with
      | some i => if locB sv.sc x && sv.asg x then some (.nm i) else none
      | none => none)
    | .Tuple es _ _ => if es.all notStar then cTgs (cTg N sv n) es else none
    | _ => none
/-- a value's truth -/
def pTru : List D → Option Ou
  | [.non] => some (.dat (.bl false))
  | [.bl b] => some (.dat (.bl b))
  | [.int i] => some (.dat (.bl (i != 0)))
  | [.str x] => if x.length ≤ LIM then some (.dat (.bl ((x.length : Int) != 0))) else none
  | [.lst xs] => some (.dat (.bl (!xs.isEmpty)))
  | [.tup xs] => some (.dat (.bl (!xs.isEmpty)))
  | _ => none
def blkS (sv : Sv) (scope : Scope) : Sv := ⟨relS scope sv.sc, fun x => (match scope.names.lookup x with
  | some .cell => true
  | _ => false) || (match (relS scope sv.sc).names.lookup x with
  | some .local => true
  | _ => false)⟩
def ownOf (N : List Str) (scope : Scope) : List (Str × Nat) := scope.names.filterMap fun y => match y.2 with
  | .local => (ixOf N y.1).map fun i => (y.1, i)
  | .cell => (ixOf N y.1).map fun i => (y.1, i)
  | _ => none
structure LcP where
  g : List D → Option (List D)
  as : Ta
  tg : Tg
  own : List (Str × Nat)
  c : Tm
  e : Tm
def LcP.tm (p : LcP) : Tm := .lc p.g p.as p.tg (p.own.map (·.2)) p.c p.e
/-- a comprehension's parts -/
def cLc (ct : Ct) (cc : Sv → Bool → Expr → Option Tm) (sv : Sv) (elt tg iter : Expr) (ifs : List Expr) (scope : Scope) : Option LcP :=
  if notSet iter && blkC ct.N sv.sc scope (ownOf ct.N scope) then
    match ct.isp sv.sc tg iter with
    | some (g, wr, es) => (match cArgs (cc sv false) es, cTg ct.N (blkS sv scope) 10 tg, (match ifs with
        | [] => some (Tm.con (.bl true))
        | [c] => cc (blkS sv scope) true c
        | _ => none), cc (blkS sv scope) false elt with
      | some as, some t, some c, some e => if (slots t).all (fun i => ((ownOf ct.N scope).map (·.2)).contains i) then some ⟨g, wr as, t, ownOf ct.N scope, c, e⟩ else none
      | _, _, _, _ => none)
    | none => none
  else none
/-- a dict comprehension's parts -/
def cDc (ct : Ct) (cc : Sv → Bool → Expr → Option Tm) (sv : Sv) (kx vx tg iter : Expr) (ifs : List Expr) (scope : Scope) : Option (LcP × Tm) :=
  match cLc ct cc sv vx tg iter ifs scope, cc (blkS sv scope) false kx with
  | some p, some k => some (p, k)
  | _, _ => none
def dcT (q : LcP × Tm) : Tm := .dc q.1.g q.1.as q.1.tg (q.1.own.map (·.2)) q.1.c q.2 q.1.e
/-- never asked -/
def stk : Tm := .prim (fun _ => none) .nil
def cc (ct : Ct) : Nat → Sv → Bool → Expr → Option Tm
  | 0, _, _, _ => none
  | n + 1, sv, true, e => match e with
    | .BoolOp op vs _ => cBools (cc ct n sv true) op vs
    | .UnaryOp .Not a _ => (cc ct n sv true a).map .not
    | .IfExp _ _ _ _ => none
    | .Compare a [o] [b] p => (match ct.csp sv.sc p o a b with
      | some (f, es) => (cArgs (cc ct n sv false) es).map f
      | none => none)
    | .Compare a [o, o2] [b, c] _ => (match cc ct n sv false a, cc ct n sv false b, cc ct n sv false c with
      | some t, some u, some v => if lastMarks [o, o2] [b, c] then none else some (.chn (ct.cmp o) (ct.cmp o2) t u v)
      | _, _, _ => none)
    | .Compare _ _ _ _ => none
    | .UnaryOp _ _ _ => none
    | e => (cc ct n sv false e).map fun t => .prim pTru (.cons t .nil)
  | n + 1, sv, false, e => match e with
    | .Name x _ => if nmB x then (if visB sv.sc x then (ixOf ct.N x).map .var else if glB sv.sc x then (ct.con.lookup x).map .con else none) else none
    | .Constant c _ _ => (constD c).map .con
    | .BoolOp op vs _ => cBools (cc ct n sv false) op vs
    | .UnaryOp .Not a _ => (cc ct n sv false a).map .not
    | .IfExp t a b _ => (match cc ct n sv true t, cc ct n sv false a, cc ct n sv false b with
      | some t, some u, some v => some (.ifx t u v)
      | _, _, _ => none)
    | .Compare a [o] [b] p => (match ct.csp sv.sc p o a b with
      | some (f, es) => (cArgs (cc ct n sv false) es).map f
      | none => none)
    | .Compare a [o, o2] [b, c] _ => (match cc ct n sv false a, cc ct n sv false b, cc ct n sv false c with
      | some t, some u, some v => if lastMarks [o, o2] [b, c] then none else some (.chn (ct.cmp o) (ct.cmp o2) t u v)
      | _, _, _ => none)
    | .ListComp elt [⟨tg, iter, ifs, 0⟩] scope _ => (cLc ct (cc ct n) sv elt tg iter ifs scope).map LcP.tm
    | .DictComp kx vx [⟨tg, iter, ifs, 0⟩] scope _ => (cDc ct (cc ct n) sv kx vx tg iter ifs scope).map dcT
    | .Call (.Name x p) es [] pos => if glB sv.sc x && nmB x && es.all notStar then (match ct.fns.lookup (x, es.length) with
      | some f => (match cArgs (cc ct n sv false) es with
        | some as => some (.call f as)
        | none => some stk)
      | none => (match ct.spec sv.sc (.Call (.Name x p) es [] pos) with
        | some (f, es) => (match cArgs (cc ct n sv false) es with
          | some as => some (f as)
          | none => some stk)
        | none => some stk)) else some stk
    | e => (match ct.msp sv.sc e with
      | some (x, k, f, es) => (match ixOf ct.N x, cArgs (cc ct n sv false) es with
        | some i, some as => if visB sv.sc x && nmB x then some (.mth k f i as) else some stk
        | _, _ => some stk)
      | none => (match ct.spec sv.sc e with
        | some (f, es) => (match cArgs (cc ct n sv false) es with
          | some as => some (f as)
          | none => some stk)
        | none => some stk))
def cSs (f : Stmt → Option Sm) : List Stmt → Option Ss
  | [] => some .nil
  | s :: r => match cSs f r with
    | some b => some (.cons ((f s).getD .nev) b)
    | none => none
/-- name = e: whether the store stands within the comprehension -/
def swN (sc : Scope) (e : Expr) (t : Str) (pos : Pos) : Bool := match e with
  | .ListComp _ _ s p => (sc.names.lookup t == some .local) && (pos.line == p.line) && !(s.names.any fun (n, k) => n == t && (k == .local || k == .cell))
  | _ => false
def swp2 (sc : Scope) (x y : Str) (px py : Pos) (a b : Expr) : Bool := (sc.names.lookup x == some .local) && (sc.names.lookup y == some .local) && !(x == y) && (py.line == px.line) && notStar a && notStar b && !([a, b].all (foldedForSure 8)) && !([a, b].all (constantsAlone 8))
/-- some target is no local name: the stores are not swapped -/
def nsw (sc : Scope) (ts : List Expr) : Bool := ts.any fun e => match e with
  | .Name x _ => !(sc.names.lookup x == some .local)
  | _ => true
def notTupE : Expr → Bool
  | .Tuple _ _ _ => false
  | _ => true
/-- a match's cases as ifs -/
def cMt (cmp : List D → Option Ou) (i : Nat) (f : List Stmt → Option Ss) : List MatchCase → Option Ss
  | [] => some .nil
  | ⟨.MatchValue (.Constant c _ _) _, none, body⟩ :: rest => (match constD c, f body, cMt cmp i f rest with
    | some d, some b, some r => some (.cons (.ite (.prim cmp (.cons (.var i) (.cons (.con d) .nil))) b r) .nil)
    | _, _, _ => none)
  | ⟨.MatchAs none none _, none, body⟩ :: _ => f body
  | _ => none
def pYes (_ : List D) : Option Ou := some (.dat (.bl true))
def cS (ct : Ct) (sv : Sv) : Nat → Stmt → Option Sm
  | 0, _ => none
  | n + 1, st => match st with
    | .Assign [.Name x px] e _ => if locB sv.sc x && sv.asg x then (match ixOf ct.N x with
      | some i => (match e with
        | .ListComp elt [⟨tg, iter, ifs, 0⟩] scope _ => (cLc ct (cc ct n) sv elt tg iter ifs scope).map fun p => .set i p.tm
        | .ListComp _ _ _ _ => none
        | .SetComp _ _ _ _ => none
        | .DictComp kx vx [⟨tg, iter, ifs, 0⟩] scope _ => (cDc ct (cc ct n) sv kx vx tg iter ifs scope).map fun q => .set i (dcT q)
        | .DictComp _ _ _ _ _ => none
        | e => (cc ct n sv false e).map (.set i))
      | none => none) else none
    | .Assign [.Tuple [.Name x px, .Name y py] kt pt] (.Tuple [a, b] k2 pt2) _ => if swp2 sv.sc x y px py a b then (match ixOf ct.N x, ixOf ct.N y, cArgs (cc ct n sv false) [a, b] with
      | some i, some j, some as => some (.par [i, j] as)
      | _, _, _ => none) else if nsw sv.sc [.Name x px, .Name y py] then (match cTg ct.N sv 10 (.Tuple [.Name x px, .Name y py] kt pt), cc ct n sv false (.Tuple [a, b] k2 pt2) with
      | some t, some u => some (.unp t u)
      | _, _ => none) else none
    | .Assign [.Tuple es kt pt] e _ => if notComp e && (notTupE e || nsw sv.sc es) then (match cTg ct.N sv 10 (.Tuple es kt pt), cc ct n sv false e with
      | some t, some u => some (.unp t u)
      | _, _ => none) else none
    | .Expr (.Constant (.str _) _ _) _ => some .pas
    | .Expr e _ => if notComp e then (cc ct n sv false e).map .drop else none
    | .Return (some e) _ => (cc ct n sv false e).map .ret
    | .Return none _ => some (.ret (.con .non))
    | .If c a b _ => (match cc ct n sv true c, cSs (cS ct sv n) a, cSs (cS ct sv n) b with
      | some c, some a, some b => some (.ite c a b)
      | _, _, _ => none)
    | .For tg iter body [] _ => if notSet iter then (match ct.isp sv.sc tg iter, cTg ct.N sv 10 tg, cSs (cS ct sv n) body with
      | some (g, wr, es), some t, some b => (cArgs (cc ct n sv false) es).map fun as => .for g (wr as) t b
      | _, _, _ => none) else none
    | .While c body [] _ => (match cc ct n sv true c, cSs (cS ct sv n) body with
      | some c, some b => some (.whl c b)
      | _, _ => none)
    | .Assign [.Subscript (.Name x p1) k p2] e _ => if notSlice k && visB sv.sc x && nmB x then (match ixOf ct.N x, cc ct n sv false k, cc ct n sv false e with
      | some i, some k, some t => some (.sub ct.sst i k t)
      | _, _, _ => none) else none
    | .Assign [.Attribute (.Name x p1) f p2] e _ => if visB sv.sc x && nmB x then (match ixOf ct.N x, ct.flds.lookup f, cc ct n sv false e with
      | some i, some cs, some t => some (.fld cs f i t)
      | _, _, _ => some .nev) else some .nev
    | .Match (.Name x p) cases _ => if visB sv.sc x && nmB x then (match ixOf ct.N x with
      | some i => (match cMt (ct.cmp .Eq) i (cSs (cS ct sv n)) cases with
        | some r => some (.ite (.prim pYes (.cons (.var i) .nil)) r .nil)
        | none => some .nev)
      | none => some .nev) else some .nev
    | .Break _ => some .brk
    | .Continue _ => some .cnt
    | .Pass _ => some .pas
    | .Raise _ _ _ => some .nev
    | _ => some .nev
end MP

end
-- MPB
section
/-! MPB: the compiled code does what the text does. -/
namespace MP
open PySem L2
inductive PEs (X : Cx) (K : PySem.W.Frag) (Wx : WX) : List Expr → Ta → Prop
  | nil : PEs X K Wx [] .nil
  | cons {e : Expr} {es : List Expr} {t : Tm} {r : Ta} : PE X e (den K Wx t) → PEs X K Wx es r → PEs X K Wx (e :: es) (.cons t r)
theorem star_cons {e : Expr} {es : List Expr} {env : Env} (h : notStar e = true) : starEach (e :: es) env = (false, eval e env) :: starEach es env := by
  cases e <;> first | rfl | (simp [notStar] at h)
theorem star_any {pos : Pos} {env : Env} : ∀ {es : List Expr}, es.all notStar = true → (backTo pos (starEach es env)).any (·.1) = false
  | [], _ => rfl
  | e :: es, h => by
    simp only [List.all_cons, Bool.and_eq_true] at h
    rw [star_cons h.1]
    show (false || (backTo pos (starEach es env)).any (·.1)) = false
    rw [star_any h.2]
    rfl
theorem PEs.pa {X : Cx} {K : PySem.W.Frag} {Wx : WX} : ∀ {es : List Expr} {as : Ta}, PEs X K Wx es as → es.all notStar = true → PA X es (denA K Wx as)
  | _, _, .nil, _ => PA.imp pa_nil fun σ H Q h => denA_nil h
  | _, _, .cons h r, n => by
    simp only [List.all_cons, Bool.and_eq_true] at n
    exact PA.imp (pa_cons h (r.pa n.2) (star_cons n.1)) fun σ H Q h => denA_cons h
theorem cArgs_ok {X : Cx} {K : PySem.W.Frag} {Wx : WX} {f : Expr → Option Tm} (hf : ∀ e t, f e = some t → PE X e (den K Wx t)) : ∀ {es : List Expr} {as : Ta}, cArgs f es = some as → PEs X K Wx es as
  | [], as, h => by simp only [cArgs] at h; cases h; exact .nil
  | e :: es, as, h => by
    unfold cArgs at h
    cases e1 : f e with
    | none => rw [e1] at h; cases h
    | some t =>
      cases e2 : cArgs f es with
      | none => rw [e1, e2] at h; cases h
      | some r =>
        rw [e1, e2] at h
        cases h
        exact .cons (hf e t e1) (cArgs_ok hf e2)
/-- the context, with the names that may be stored -/
structure Cv (P : Program) (w : World) (K : PySem.W.Frag) (mg : Str → Option Value) (base : Heap) (k : Nat) (N : List Str) (sv : Sv) (X : Cx) (Wx : WX) : Prop extends Cok P w K mg base k N sv.sc X Wx where
  fn : ∀ x, sv.asg x = true → X.fn x = true ∨ X.env.scope.names.lookup x = some .local
  kd : X.env.scope.kind = .function
/-- what can be called with n arguments -/
def Calb (P : Program) (w : World) (K : PySem.W.Frag) (mg : Str → Option Value) (base : Heap) (k : Nat) (ad : Addr) (n : Nat) (f : Fn) : Prop :=
  ∀ (X : Cx) (E : XK) (A : Around) (pins : List (Addr × Obj)) (s : Shared) (σ : L2.St) (H : Hp) (Q : VK) (us : List Value) (vs : List V), X.prog = P → X.w = w → X.K = K → X.mg = mg → X.base = base → Room k A → A.frames = X.A.frames → A.guards = some [] →
    PassesAt (L2.CX P w) X σ E → Inv X pins σ H s → Vals vs us → vs.length = n → spF K f vs H Q E → codeAny (model P w) A (.call (.ref ad) ⟨us, []⟩) (fun r s' => match r with | .ok (.ret v) => EP X pins σ Q v s' | .ok _ => False | .error e => X.xe e s') s
/-- what the parts of a comprehension are worth -/
structure LcOk (K : PySem.W.Frag) (X : Cx) (Wx : WX) (elt tg iter : Expr) (ifs : List Expr) (scope : Scope) (p : LcP) : Prop where
  pi : PI X tg iter (denI K Wx p.g p.as)
  blk : BlkOk X.N X.env.scope scope p.own
  pg : ∀ (s : Shared) (H : Hp) (C : Addr) (cl : List (Str × Addr)) (fp : List Addr), PG (X.blk s H scope (compEnvC scope cl C X.env) fp) tg (denG K p.tg)
  pt : ∀ (s : Shared) (H : Hp) (C : Addr) (cl : List (Str × Addr)) (fp : List Addr), PTs (X.blk s H scope (compEnvC scope cl C X.env) fp) ifs (denT K W0x p.c)
  pe : ∀ (s : Shared) (H : Hp) (C : Addr) (cl : List (Str × Addr)) (fp : List Addr), PE (X.blk s H scope (compEnvC scope cl C X.env) fp) elt (den K W0x p.e)
  hs : ∀ x, foldedSetIterable iter X.env x = pure x
  own : ∀ i ∈ slots p.tg, i ∈ p.own.map (·.2)
structure Tbl (P : Program) (w : World) (K : PySem.W.Frag) (mg : Str → Option Value) (base : Heap) (k : Nat) (ct : Ct) : Prop where
  fns : ∀ x n f, ct.fns.lookup (x, n) = some f → ∃ ad, mg x = some (.ref ad) ∧ PySem.W.keepIn K (.ref ad) = true ∧ Calb P w K mg base k ad n f
  flds : ∀ f cs, ct.flds.lookup f = some cs → ∀ c ∈ cs, Cls K (He.ga K c) ∧ NoAttr K (He.ga K c) f
  con : ∀ x d, ct.con.lookup x = some d → ∃ v u, mg x = some u ∧ RelV v u ∧ ∀ W, Dr K W v d
  cmp : ∀ {sv : Sv} {X : Cx} {Wx : WX}, Cv P w K mg base k ct.N sv X Wx → ∀ o, OpR X (compareOp o) (fun x y => rP K (ct.cmp o) [x, y])
  csp : ∀ {sv : Sv} {X : Cx} {Wx : WX}, Cv P w K mg base k ct.N sv X Wx → ∀ {pos : Pos} {o : CmpOp} {a b : Expr} {f : Ta → Tm} {es : List Expr} {as : Ta}, ct.csp sv.sc pos o a b = some (f, es) → PEs X K Wx es as → PE X (.Compare a [o] [b] pos) (den K Wx (f as)) ∧ PT X (.Compare a [o] [b] pos) (denT K Wx (f as))
  dcE : ∀ {sv : Sv} {X : Cx} {Wx : WX}, Cv P w K mg base k ct.N sv X Wx → ∀ {kx vx tg iter : Expr} {ifs : List Expr} {scope : Scope} {pos : Pos} {p : LcP} {tk : Tm}, LcOk K X Wx vx tg iter ifs scope p → (∀ (s : Shared) (H : Hp) (C : Addr) (cl : List (Str × Addr)) (fp : List Addr), PE (X.blk s H scope (compEnvC scope cl C X.env) fp) kx (den K W0x tk)) →
    PE X (.DictComp kx vx [⟨tg, iter, ifs, 0⟩] scope pos) (den K Wx (dcT (p, tk)))
  dcS : ∀ {sv : Sv} {X : Cx} {Wx : WX}, Cv P w K mg base k ct.N sv X Wx → ∀ {kx vx tg iter : Expr} {ifs : List Expr} {scope : Scope} {pos py spos : Pos} {p : LcP} {tk : Tm} {i : Nat} {y : Str} {fu : Nat}, LcOk K X Wx vx tg iter ifs scope p → (∀ (s : Shared) (H : Hp) (C : Addr) (cl : List (Str × Addr)) (fp : List Addr), PE (X.blk s H scope (compEnvC scope cl C X.env) fp) kx (den K W0x tk)) →
    X.N[i]? = some y → X.env.scope.names.lookup y = some .local → swapsWith (.DictComp kx vx [⟨tg, iter, ifs, 0⟩] scope pos) (some (.Name y py)) spos.line X.env = pure true →
    PS X (.Assign [.Name y py] (.DictComp kx vx [⟨tg, iter, ifs, 0⟩] scope pos) spos) (denS K Wx fu (.set i (dcT (p, tk))))
  spec : ∀ {sv : Sv} {X : Cx} {Wx : WX}, Cv P w K mg base k ct.N sv X Wx → ∀ {e : Expr} {f : Ta → Tm} {es : List Expr} {as : Ta}, ct.spec sv.sc e = some (f, es) → PEs X K Wx es as → PE X e (den K Wx (f as))
  isp : ∀ {sv : Sv} {X : Cx} {Wx : WX}, Cv P w K mg base k ct.N sv X Wx → ∀ {tg e : Expr} {g : List D → Option (List D)} {wr : Ta → Ta} {es : List Expr} {as : Ta}, ct.isp sv.sc tg e = some (g, wr, es) → PEs X K Wx es as → PI X tg e (denI K Wx g (wr as))
  msp : ∀ {sv : Sv} {X : Cx} {Wx : WX}, Cv P w K mg base k ct.N sv X Wx → ∀ {e : Expr} {x : Str} {kd : D → Bool} {f : D → List D → Option (D × Ou)} {es : List Expr} {as : Ta} {i : Nat}, ct.msp sv.sc e = some (x, kd, f, es) → ct.N[i]? = some x → Vis X.env.scope x → nmB x = true → PEs X K Wx es as → PE X e (den K Wx (.mth kd f i as))
  sst : ∀ {sv : Sv} {X : Cx} {Wx : WX}, Cv P w K mg base k ct.N sv X Wx → PSet X (rSt K ct.sst)

section
variable {P : Program} {w : World} {K : PySem.W.Frag} {mg : Str → Option Value} {base : Heap} {k : Nat} {ct : Ct} {sv : Sv} {X : Cx} {Wx : WX}
theorem rP_op {f : List D → Option Ou} {t u : Tm} {σ : St} {H : Hp} {Q : VK} (h : den K Wx (.prim f (.cons t (.cons u .nil))) σ H Q) : tOp (fun x y => rP K f [x, y]) (den K Wx t) (den K Wx u) σ H Q := by
  have h1 := denA_cons (den_prim h)
  obtain ⟨E, W, Γ, R, h1⟩ := h1
  refine ⟨E, W, Γ, R, h1.imp fun l c' R' S' e' z v V => ?_⟩
  have z1 := denA_cons (z v V)
  obtain ⟨E2, W2, Γ2, R2, z1⟩ := z1
  refine ⟨E2, W2, Γ2, R2, z1.imp fun l2 c2 R3 S3 e3 y v2 V2 => ?_⟩
  exact denA_nil (y v2 V2)
theorem den_mono {t : Tm} {σ : St} {H : Hp} {Q Q' : VK} (h : den K Wx t σ H Q) (i : ∀ v H', Q v H' → Q' v H') : den K Wx t σ H Q' := by
  obtain ⟨E, W, Γ, R, h⟩ := h
  exact ⟨E, W, Γ, R, h.imp fun l c' R' S' e' z v V => i _ _ (z v V)⟩
/-- a compiled test of a boolean value -/
theorem denT_prim {f : List D → Option Ou} {as : Ta} {σ : St} {H : Hp} {Q : Bool → Hp → Prop} (h : denT K Wx (.prim f as) σ H Q) : tTest (den K Wx (.prim f as)) σ H Q := denT_den h
theorem cBoolsV_ok {f : Expr → Option Tm} (hf : ∀ e t, f e = some t → PE X e (den K Wx t)) {op : BoolOp} {pos : Pos} : ∀ {vs : List Expr} {t : Tm}, cBools f op vs = some t → PE X (.BoolOp op vs pos) (den K Wx t)
  | [], t, h => by simp [cBools] at h
  | [a], t, h => by
    simp only [cBools] at h
    exact pe_one (hf a t h)
  | a :: b :: r, t, h => by
    unfold cBools at h
    dsimp only at h
    cases e1 : f a with
    | none => rw [e1] at h; cases h
    | some u =>
      cases e2 : cBools f op (b :: r) with
      | none => rw [e1, e2] at h; cases h
      | some v =>
        rw [e1, e2] at h
        cases h
        have h2 := cBoolsV_ok hf (pos := pos) e2
        cases op with
        | And => exact PE.imp (pe_and (hf a u e1) h2) fun σ H Q h => den_and h
        | Or => exact PE.imp (pe_or (hf a u e1) h2) fun σ H Q h => den_or h
theorem cBoolsT_ok {f : Expr → Option Tm} (hf : ∀ e t, f e = some t → PT X e (denT K Wx t)) {op : BoolOp} {pos : Pos} : ∀ {vs : List Expr} {t : Tm}, cBools f op vs = some t → PW X (.BoolOp op vs pos) (denT K Wx t)
  | [], t, h => by simp [cBools] at h
  | [a], t, h => by
    simp only [cBools] at h
    cases op with
    | And => exact pw_and1 (hf a t h)
    | Or => exact pw_or1 (hf a t h)
  | a :: b :: r, t, h => by
    unfold cBools at h
    dsimp only at h
    cases e1 : f a with
    | none => rw [e1] at h; cases h
    | some u =>
      cases e2 : cBools f op (b :: r) with
      | none => rw [e1, e2] at h; cases h
      | some v =>
        rw [e1, e2] at h
        cases h
        have h2 := cBoolsT_ok hf (pos := pos) e2
        cases op with
        | And => exact PW.imp (pw_and (hf a u e1) h2) fun σ H Q h => denT_and h
        | Or => exact PW.imp (pw_or (hf a u e1) h2) fun σ H Q h => denT_or h
theorem constD_ok {c : Const} {d : D} {j : Nat} {pos : Pos} (h : constD c = some d) : PE X (.Constant c j pos) (den K Wx (.con d)) := by
  cases c with
  | none => cases h; exact PE.imp pe_non fun σ H Q h => den_con (fun _ => .non) h
  | bool b => cases h; exact PE.imp pe_bl fun σ H Q h => den_con (fun _ => .bl b) h
  | int i => cases h; exact PE.imp pe_int fun σ H Q h => den_con (fun _ => .int i) h
  | str x => cases h; exact PE.imp pe_str fun σ H Q h => den_con (fun _ => .str x) h
  | _ => cases h
/-- targets -/
theorem cTgs_tup {f : Expr → Option Tg} : ∀ {es : List Expr} {t : Tg}, cTgs f es = some t → isTup t es.length
  | [], t, h => by simp only [cTgs] at h; cases h; rfl
  | e :: es, t, h => by
    unfold cTgs at h
    cases e1 : f e with
    | none => rw [e1] at h; cases h
    | some u =>
      cases e2 : cTgs f es with
      | none => rw [e1, e2] at h; cases h
      | some r =>
        rw [e1, e2] at h
        cases h
        exact ⟨es.length, rfl, cTgs_tup e2⟩
theorem PG.imp {e : Expr} {t t' : TG} (h : PG X e t) (i : ∀ v σ H Q, t' v σ H Q → t v σ H Q) : PG X e t' := ⟨fun pins s σ H v u Q I r w => h.run pins s σ H v u Q I r (i v σ H Q w)⟩
theorem PGs.imp {e : List Expr} {t t' : TGs} (h : PGs X e t) (i : ∀ v σ H Q, t' v σ H Q → t v σ H Q) : PGs X e t' := ⟨fun pins s σ H v u Q I r w => h.run pins s σ H v u Q I r (i v σ H Q w)⟩
theorem asg_cons {e : Expr} {es : List Expr} {env : Env} (h : notStar e = true) : assignEach (e :: es) env = (false, assign e env) :: assignEach es env := by
  cases e <;> first | rfl | (simp [notStar] at h)
theorem asg_len {env : Env} : ∀ {es : List Expr}, (assignEach es env).length = es.length
  | [] => rfl
  | e :: es => by
    cases e <;> (show (assignEach es env).length + 1 = _; rw [asg_len]; rfl)
theorem asg_no {env : Env} : ∀ {es : List Expr}, es.all notStar = true → (assignEach es env).findIdx? (·.1) = none
  | [], _ => rfl
  | e :: es, h => by
    simp only [List.all_cons, Bool.and_eq_true] at h
    rw [asg_cons h.1, List.findIdx?_cons, asg_no h.2]
    rfl
theorem cTgs_ok {f : Expr → Option Tg} (hf : ∀ e t, f e = some t → PG X e (denG K t)) : ∀ {es : List Expr} {t : Tg}, es.all notStar = true → cTgs f es = some t → PGs X es (denGs K t)
  | [], t, _, h => by simp only [cTgs] at h; cases h; exact PGs.imp pgs_nil fun v σ H Q h => denGs_nil h
  | e :: es, t, n, h => by
    simp only [List.all_cons, Bool.and_eq_true] at n
    unfold cTgs at h
    cases e1 : f e with
    | none => rw [e1] at h; cases h
    | some u =>
      cases e2 : cTgs f es with
      | none => rw [e1, e2] at h; cases h
      | some r =>
        rw [e1, e2] at h
        cases h
        exact PGs.imp (pgs_cons (hf e u e1) (cTgs_ok hf n.2 e2) (by rw [asg_cons n.1]; rfl)) fun v σ H Q h => denGs_cons h
theorem cTg_ok (C : Cv P w K mg base k ct.N sv X Wx) : ∀ {n : Nat} {e : Expr} {t : Tg}, cTg ct.N sv n e = some t → PG X e (denG K t)
  | 0, _, _, h => by simp [cTg] at h
  | n + 1, e, t, h => by
    cases e with
    | Name x pos =>
      simp only [cTg] at h
      cases e1 : ixOf ct.N x with
      | none => rw [e1] at h; cases h
      | some i =>
        rw [e1] at h
        dsimp only at h
        split at h
        · rename_i hb
          simp only [Bool.and_eq_true] at hb
          cases h
          exact PG.imp (pg_name (by rw [C.n]; exact C.nd) (by rw [C.n]; exact ixOf_get e1) (by rw [C.sc]; exact locB_ok hb.1) (C.fn x hb.2)) fun v σ H Q h => denG_nm h
        · cases h
    | Tuple es kk pos =>
      simp only [cTg] at h
      split at h
      · rename_i ns
        have q := cTgs_tup h
        have g := cTgs_ok (X := X) (K := K) (fun e t h => cTg_ok C h) ns h
        have kk := C.kk
        subst kk
        exact PG.imp (pg_tup C.calm g asg_len (asg_no ns)) fun v σ H Q h => denG_tup q h
      · cases h
    | _ => simp [cTg] at h
theorem pTru_ok {x : V} {H W : Hp} {d : D} {o : Ou} (l : Le W H) (h : Top K W H x d) (e : pTru [d] = some o) : ∃ b, o = .dat (.bl b) ∧ TruV K x H b := by
  cases h with
  | dat h =>
    cases h with
    | non => cases e; exact ⟨_, rfl, rfl⟩
    | bl b => cases e; exact ⟨_, rfl, rfl⟩
    | int i => cases e; exact ⟨_, rfl, rfl⟩
    | str s =>
      simp only [pTru] at e
      split at e
      · rename_i hl
        cases e
        exact ⟨_, rfl, lim_le hl, rfl⟩
      · cases e
    | tup q r =>
      cases e
      refine ⟨_, rfl, .inr (.inl ⟨_, q.sq l, ?_⟩)⟩
      cases r <;> rfl
    | lst q r =>
      cases e
      refine ⟨_, rfl, .inl ⟨_, q.sq l, ?_⟩⟩
      cases r <;> rfl
    | _ => cases e
  | mt h =>
    cases h with
    | lst q r =>
      cases e
      refine ⟨_, rfl, .inl ⟨_, SqL.of q, ?_⟩⟩
      cases r <;> rfl
    | _ => cases e
end
end MP

end
-- MPC
section
/-! MPC: the compiled code does what the text does: expressions. -/
namespace MP
open PySem L2
section
variable {P : Program} {w : World} {K : PySem.W.Frag} {mg : Str → Option Value} {base : Heap} {k : Nat} {ct : Ct}
theorem notSet_ok {e : Expr} {env : Env} (h : notSet e = true) : ∀ x, foldedSetIterable e env x = pure x := fun x => by
  cases e <;> first | rfl | (simp [notSet] at h)
theorem blk_cv {sv : Sv} {X : Cx} {Wx : WX} (C : Cv P w K mg base k ct.N sv X Wx) {scope : Scope} {own : List (Str × Nat)} (B : BlkOk ct.N sv.sc scope own) (s : Shared) (H : Hp) (Ca : Addr) (cl : List (Str × Addr)) (fp : List Addr) :
    Cv P w K mg base k ct.N (blkS sv scope) (X.blk s H scope (compEnvC scope cl Ca X.env) fp) W0x := by
  have hsc : (compEnvC scope cl Ca X.env).scope = relS scope sv.sc := by rw [← C.sc]; rfl
  refine ⟨⟨C.p, C.w, C.kk, C.m, C.b, C.n, C.nd, hsc, C.calm, C.room, C.gd, PassesOwn.never, takes0⟩, fun x h => ?_, ?_⟩
  · unfold blkS at h
    simp only [Bool.or_eq_true] at h
    rcases h with h | h
    · left
      show (scope.names.lookup x == some NameKind.cell) = true
      cases q : scope.names.lookup x with
      | none => rw [q] at h; cases h
      | some kd =>
        rw [q] at h
        cases kd <;> first | rfl | cases h
    · right
      show (compEnvC scope cl Ca X.env).scope.names.lookup x = some .local
      rw [hsc]
      cases q : (relS scope sv.sc).names.lookup x with
      | none => rw [q] at h; cases h
      | some kd =>
        rw [q] at h
        cases kd <;> first | rfl | cases h
  · show (compEnvC scope cl Ca X.env).scope.kind = .function
    rw [hsc]
    exact B.kind
theorem cLc_ok (T : Tbl P w K mg base k ct) {sv : Sv} {X : Cx} {Wx : WX} (C : Cv P w K mg base k ct.N sv X Wx) {cc : Sv → Bool → Expr → Option Tm}
    (hv : ∀ (sv : Sv) (X : Cx) (Wx : WX), Cv P w K mg base k ct.N sv X Wx → ∀ e t, cc sv false e = some t → PE X e (den K Wx t)) (ht : ∀ (sv : Sv) (X : Cx) (Wx : WX), Cv P w K mg base k ct.N sv X Wx → ∀ e t, cc sv true e = some t → PT X e (denT K Wx t))
    {elt tg iter : Expr} {ifs : List Expr} {scope : Scope} {p : LcP} (h : cLc ct cc sv elt tg iter ifs scope = some p) : LcOk K X Wx elt tg iter ifs scope p := by
  unfold cLc at h
  split at h
  rotate_left
  · cases h
  rename_i hb
  simp only [Bool.and_eq_true] at hb
  have B : BlkOk ct.N sv.sc scope (ownOf ct.N scope) := blkOk_by hb.2
  cases ei : ct.isp sv.sc tg iter with
  | none => rw [ei] at h; cases h
  | some q =>
    obtain ⟨g, wr, es⟩ := q
    rw [ei] at h
    dsimp only at h
    cases ea : cArgs (cc sv false) es with
    | none => rw [ea] at h; cases h
    | some as =>
      cases et : cTg ct.N (blkS sv scope) 10 tg with
      | none => rw [ea, et] at h; cases h
      | some t =>
        rw [ea, et] at h
        split at h
        rotate_left
        · cases h
        rename_i as' t' c e h1 h2 hc he
        cases h1
        cases h2
        split at h
        rotate_left
        · cases h
        rename_i hs
        cases h
        refine ⟨T.isp C ei (cArgs_ok (hv sv X Wx C) ea), by rw [C.n, C.sc]; exact B, fun s H Ca cl fp => cTg_ok (blk_cv C B s H Ca cl fp) et, fun s H Ca cl fp => ?_, fun s H Ca cl fp => hv _ _ _ (blk_cv C B s H Ca cl fp) _ _ he, notSet_ok hb.1, fun i hi => ?_⟩
        · split at hc
          · cases hc
            refine ⟨fun pins s' σ H' Q I h => pts_nil.run pins s' σ H' Q I ?_⟩
            obtain ⟨E, W, Γ, R, h⟩ := h
            obtain ⟨b, e, q⟩ := h.at R
            cases e
            exact q
          · exact pts_one (ht _ _ _ (blk_cv C B s H Ca cl fp) _ _ hc)
          · cases hc
        · have z := List.all_eq_true.mp hs i hi
          simpa using z
theorem cDc_ok (T : Tbl P w K mg base k ct) {sv : Sv} {X : Cx} {Wx : WX} (C : Cv P w K mg base k ct.N sv X Wx) {cc : Sv → Bool → Expr → Option Tm}
    (hv : ∀ (sv : Sv) (X : Cx) (Wx : WX), Cv P w K mg base k ct.N sv X Wx → ∀ e t, cc sv false e = some t → PE X e (den K Wx t)) (ht : ∀ (sv : Sv) (X : Cx) (Wx : WX), Cv P w K mg base k ct.N sv X Wx → ∀ e t, cc sv true e = some t → PT X e (denT K Wx t))
    {kx vx tg iter : Expr} {ifs : List Expr} {scope : Scope} {q : LcP × Tm} (h : cDc ct cc sv kx vx tg iter ifs scope = some q) : LcOk K X Wx vx tg iter ifs scope q.1 ∧ ∀ (s : Shared) (H : Hp) (C : Addr) (cl : List (Str × Addr)) (fp : List Addr), PE (X.blk s H scope (compEnvC scope cl C X.env) fp) kx (den K W0x q.2) := by
  unfold cDc at h
  cases e1 : cLc ct cc sv vx tg iter ifs scope with
  | none => rw [e1] at h; cases h
  | some p =>
    cases e2 : cc (blkS sv scope) false kx with
    | none => rw [e1, e2] at h; cases h
    | some k =>
      rw [e1, e2] at h
      cases h
      have L := cLc_ok T C hv ht e1
      have B := L.blk
      rw [C.n, C.sc] at B
      exact ⟨L, fun s H Ca cl fp => hv _ _ _ (blk_cv C B s H Ca cl fp) _ _ e2⟩
theorem isTrue_pl {e : Expr} {env : Env} (h1 : ∀ op vs p, e ≠ .BoolOp op vs p) (h2 : ∀ a p, e ≠ .UnaryOp .Not a p) (h3 : ∀ a b c p, e ≠ .IfExp a b c p) (h4 : ∀ a b c p, e ≠ .Compare a b c p) :
    ∀ whole, isTrue e env whole = (do let v ← whole; standAt e.pos; holding [v] (truthy v)) := fun whole => by
  cases e with
  | BoolOp op vs p => exact absurd rfl (h1 op vs p)
  | UnaryOp op a p =>
    cases op with
    | Not => exact absurd rfl (h2 a p)
    | _ => rfl
  | IfExp a b c p => exact absurd rfl (h3 a b c p)
  | Compare a b c p => exact absurd rfl (h4 a b c p)
  | _ => rfl
theorem den_prim1 {f : List D → Option Ou} {t : Tm} {Wx : WX} {σ : St} {H : Hp} {Q : VK} (h : den K Wx (.prim f (.cons t .nil)) σ H Q) : den K Wx t σ H fun x H1 => rP K f [x] H1 Q :=
  den_mono (denA_cons (den_prim h)) fun v H' z => denA_nil z
theorem tru_test {X : Cx} {Wx : WX} {e : Expr} {t : Tm} (hK : X.K = K) (h : PE X e (den K Wx t)) (hp : ∀ whole, isTrue e X.env whole = (do let v ← whole; standAt e.pos; holding [v] (truthy v))) : PT X e (denT K Wx (.prim pTru (.cons t .nil))) := by
  subst hK
  refine PT.imp (pt_truth h hp) fun σ H Q z => ?_
  refine den_mono (den_prim1 (denT_den z)) fun x H1 y => ?_
  obtain ⟨W, ds, o, l, tp, e1, k1⟩ := y
  cases tp with
  | cons tp r =>
    cases r
    obtain ⟨b, rfl, tv⟩ := pTru_ok l tp e1
    obtain ⟨b', e2, q⟩ := k1 (.bl b) W H1 (PSt.refl l) (.dat (.bl b))
    cases e2
    exact ⟨b, tv, q⟩
theorem evA_len : ∀ {as : Ta} {Γ Γ1 : List Slot} {ls : List Vl}, evA as Γ = .ok ls Γ1 → ∀ {X : Cx} {Wx : WX} {es : List Expr}, PEs X K Wx es as → ls.length = es.length
  | .nil, Γ, Γ1, ls, h, X, Wx, es, p => by
    simp only [evA] at h
    cases h
    cases p
    rfl
  | .cons t r, Γ, Γ1, ls, h, X, Wx, es, p => by
    simp only [evA] at h
    cases p with | cons p1 p2 =>
    cases e1 : ev t Γ with
    | ok l Γ2 =>
      rw [e1] at h
      simp only [Rs.bind] at h
      cases e2 : evA r Γ2 with
      | ok ls2 Γ3 =>
        rw [e2] at h
        simp only [Rs.bind] at h
        cases h
        simp [evA_len e2 p2]
      | exn x Γ3 => rw [e2] at h; cases h
      | stuck => rw [e2] at h; cases h
    | exn x Γ2 => rw [e1] at h; cases h
    | stuck => rw [e1] at h; cases h
theorem denA_len {X : Cx} {Wx : WX} {es : List Expr} {as : Ta} {σ : L2.St} {H : Hp} {Q : List V → Hp → Prop} (p : PEs X K Wx es as) (h : denA K Wx as σ H Q) : denA K Wx as σ H fun vs H1 => vs.length = es.length ∧ Q vs H1 := by
  obtain ⟨E, W, Γ, R, h⟩ := h
  refine ⟨E, W, Γ, R, ?_⟩
  cases e : evA as Γ with
  | ok ls Γ1 =>
    rw [e] at h
    exact fun W' H' R' S' vs V => ⟨by rw [V.len, evA_len e p], h W' H' R' S' vs V⟩
  | exn x Γ1 => rw [e] at h; exact h
  | stuck => rw [e] at h; exact h
theorem lookMark {o : CmpOp} {b : Expr} : ¬ behindInMarks o b = true → behindInMarks o b = false := fun h => by
  cases q : behindInMarks o b with
  | false => rfl
  | true => exact absurd q h
theorem stk_ok {X : Cx} {e : Expr} {Wx : WX} : PE X e (den K Wx stk) := ⟨fun pins s σ H Q I h => by
  obtain ⟨E, W, Γ, R, h⟩ := h
  simp only [stk, ev, evA, Rs.bind, resA] at h
  exact h.elim⟩
theorem call_ok {sv : Sv} {X : Cx} {Wx : WX} {N : List Str} (C : Cv P w K mg base k N sv X Wx) {x : Str} {ad : Addr} {f : Fn} {es : List Expr} {as : Ta} {p pos : Pos} (F : Calb P w K mg base k ad es.length f) (hg : Gl X x) (hm : mg x = some (.ref ad)) (hk : PySem.W.keepIn K (.ref ad) = true)
    (hdb : (x == ("__debug__" : Str)) = false) (hst : es.all notStar = true) (ha : PEs X K Wx es as) : PE X (.Call (.Name x p) es [] pos) (den K Wx (.call f as)) := by
  have hp := C.p; have hw := C.w; have kk := C.kk; have hmg := C.m; have hbs := C.b
  subst hp hw kk hmg hbs
  refine ⟨fun pins s σ H Q I h => wpAny_Call_Name_kw (ld_glob I hg hm ?_ hdb)⟩
  have ln : ∀ {vs : List V} {Q : VK} {H : Hp}, spF X.K f vs H Q (WE Wx σ) → vs.length = f.io.length := fun {vs Q H} h => by
    obtain ⟨_, _, _, a, _⟩ := h
    exact a.length.1
  have q := den_call h
  cases es with
  | nil =>
    cases ha
    refine PySem.W.callWith_K0 I.kIn hk ?_
    exact wpAny_call <| F X (WE Wx σ) X.A pins s σ H Q [] [] rfl rfl rfl rfl rfl C.room rfl C.gd (passAt C.tk σ) I .nil rfl (denA_nil q)
  | cons e es =>
    have hst' : notStar e = true ∧ es.all notStar = true := by simpa [List.all_cons, Bool.and_eq_true] using hst
    refine PySem.W.callWith_K (h₀ := X.base) I.ok.mod.kin hk (thn ((ha.pa hst).run pos pins s σ H _ I (denA_len ha q)) fun us s1 z => ?_) (star_cons hst'.1) (star_any hst'.2)
    obtain ⟨vs, H1, I1, r, hl, q⟩ := z
    exact ⟨I1.kIn, wpAny_call <| F X (WE Wx σ) X.A pins s1 σ H1 Q us vs rfl rfl rfl rfl rfl C.room rfl C.gd (passAt C.tk σ) I1 r hl q⟩
theorem cc_ok (T : Tbl P w K mg base k ct) : ∀ (n : Nat) (sv : Sv) (X : Cx) (Wx : WX), Cv P w K mg base k ct.N sv X Wx → ∀ e t, (cc ct n sv false e = some t → PE X e (den K Wx t)) ∧ (cc ct n sv true e = some t → PT X e (denT K Wx t))
  | 0, sv, X, Wx, C, e, t => ⟨fun h => by simp [cc] at h, fun h => by simp [cc] at h⟩
  | n + 1, sv, X, Wx, C, e, t => by
    have ihv : ∀ (sv : Sv) (X : Cx) (Wx : WX), Cv P w K mg base k ct.N sv X Wx → ∀ e t, cc ct n sv false e = some t → PE X e (den K Wx t) := fun sv X Wx C e t => (cc_ok T n sv X Wx C e t).1
    have iht : ∀ (sv : Sv) (X : Cx) (Wx : WX), Cv P w K mg base k ct.N sv X Wx → ∀ e t, cc ct n sv true e = some t → PT X e (denT K Wx t) := fun sv X Wx C e t => (cc_ok T n sv X Wx C e t).2
    have args : ∀ {es : List Expr} {as : Ta}, cArgs (cc ct n sv false) es = some as → PEs X K Wx es as := fun h => cArgs_ok (ihv sv X Wx C) h
    refine ⟨fun h => ?_, fun h => ?_⟩
    · unfold cc at h
      split at h
      · -- a name
        rename_i x pos
        split at h
        rotate_left
        · cases h
        rename_i hn
        obtain ⟨n1, n2⟩ := nmB_ok hn
        split at h
        · rename_i hvis
          cases e1 : ixOf ct.N x with
          | none => rw [e1] at h; cases h
          | some i =>
            rw [e1] at h
            cases h
            exact PE.imp (pe_var (by rw [C.n]; exact ixOf_get e1) (by rw [C.sc]; exact visB_ok hvis) n1 n2) fun σ H Q h => den_var h
        · split at h
          rotate_left
          · cases h
          rename_i hgl
          cases e1 : ct.con.lookup x with
          | none => rw [e1] at h; cases h
          | some d =>
            rw [e1] at h
            cases h
            obtain ⟨v, u, m1, m2, m3⟩ := T.con x d e1
            exact PE.imp (pe_glob (glB_ok (by rw [C.sc]; exact hgl)) (by rw [C.m]; exact m1) m2 n1) fun σ H Q h => den_con m3 h
      · -- a constant
        rename_i c j pos
        cases e1 : constD c with
        | none => rw [e1] at h; cases h
        | some d =>
          rw [e1] at h
          cases h
          exact constD_ok e1
      · exact cBoolsV_ok (ihv sv X Wx C) h
      · rename_i a pos
        cases e1 : cc ct n sv false a with
        | none => rw [e1] at h; cases h
        | some u =>
          rw [e1] at h
          cases h
          exact PE.imp (pe_not (ihv sv X Wx C a u e1)) fun σ H Q h => den_not h
      · rename_i c a b pos
        cases e1 : cc ct n sv true c with
        | none => rw [e1] at h; cases h
        | some tc =>
          cases e2 : cc ct n sv false a with
          | none => rw [e1, e2] at h; cases h
          | some ta =>
            cases e3 : cc ct n sv false b with
            | none => rw [e1, e2, e3] at h; cases h
            | some tb =>
              rw [e1, e2, e3] at h
              cases h
              exact PE.imp (pe_ifExp (iht sv X Wx C c tc e1) (ihv sv X Wx C a ta e2) (ihv sv X Wx C b tb e3)) fun σ H Q h => den_ifx h
      · rename_i a o b pos
        split at h
        rotate_left
        · cases h
        rename_i f es e1
        cases e2 : cArgs (cc ct n sv false) es with
        | none => rw [e2] at h; cases h
        | some as =>
          rw [e2] at h
          cases h
          exact (T.csp C e1 (args e2)).1
      · rename_i a o o2 b c pos
        cases e1 : cc ct n sv false a with
        | none => rw [e1] at h; cases h
        | some ta =>
          cases e2 : cc ct n sv false b with
          | none => rw [e1, e2] at h; cases h
          | some tb =>
            cases e3 : cc ct n sv false c with
            | none => rw [e1, e2, e3] at h; cases h
            | some tc =>
              rw [e1, e2, e3] at h
              dsimp only at h
              split at h
              · cases h
              rename_i hm
              cases h
              exact PE.imp (pe_chain (T.cmp C o) (T.cmp C o2) (ihv sv X Wx C a ta e1) (ihv sv X Wx C b tb e2) (ihv sv X Wx C c tc e3) (by simpa using hm)) fun σ H Q h => den_chn h
      · rename_i elt tg iter ifs scope pos
        cases e1 : cLc ct (cc ct n) sv elt tg iter ifs scope with
        | none => rw [e1] at h; cases h
        | some p =>
          rw [e1] at h
          cases h
          have L := cLc_ok T C ihv iht e1
          exact PE.imp (pe_lc C.calm (by rw [C.n]; exact C.nd) L.pi L.blk L.pg L.pt L.pe L.hs) fun σ H Q h => den_lc L.own h
      · rename_i kx vx tg iter ifs scope pos
        cases e1 : cDc ct (cc ct n) sv kx vx tg iter ifs scope with
        | none => rw [e1] at h; cases h
        | some q =>
          rw [e1] at h
          cases h
          obtain ⟨L, pk⟩ := cDc_ok T C ihv iht e1
          exact T.dcE C L pk
      · rename_i x p es pos
        split at h
        rotate_left
        · cases h; exact stk_ok
        rename_i hb
        simp only [Bool.and_eq_true] at hb
        obtain ⟨⟨hgl, hn⟩, hst⟩ := hb
        cases e1 : ct.fns.lookup (x, es.length) with
        | some f =>
          rw [e1] at h
          dsimp only at h
          cases e2 : cArgs (cc ct n sv false) es with
          | none => rw [e2] at h; cases h; exact stk_ok
          | some as =>
            rw [e2] at h
            cases h
            obtain ⟨ad, m1, m2, m3⟩ := T.fns x _ f e1
            exact call_ok C m3 (glB_ok (by rw [C.sc]; exact hgl)) m1 m2 (nmB_ok hn).1 hst (args e2)
        | none =>
          rw [e1] at h
          dsimp only at h
          cases e2 : ct.spec sv.sc (.Call (.Name x p) es [] pos) with
          | none => rw [e2] at h; cases h; exact stk_ok
          | some q =>
            obtain ⟨f, es2⟩ := q
            rw [e2] at h
            dsimp only at h
            cases e3 : cArgs (cc ct n sv false) es2 with
            | none => rw [e3] at h; cases h; exact stk_ok
            | some as =>
              rw [e3] at h
              cases h
              exact T.spec C e2 (args e3)
      · -- the rest
        split at h
        · rename_i x kd f es e1
          cases e2 : ixOf ct.N x with
          | none => rw [e2] at h; cases h; exact stk_ok
          | some i =>
            cases e3 : cArgs (cc ct n sv false) es with
            | none => rw [e2, e3] at h; cases h; exact stk_ok
            | some as =>
              rw [e2, e3] at h
              dsimp only at h
              split at h
              rotate_left
              · cases h; exact stk_ok
              rename_i hb
              simp only [Bool.and_eq_true] at hb
              cases h
              exact T.msp C e1 (ixOf_get e2) (by rw [C.sc]; exact visB_ok hb.1) hb.2 (args e3)
        · split at h
          · rename_i f es2 e2
            cases e3 : cArgs (cc ct n sv false) es2 with
            | none => rw [e3] at h; cases h; exact stk_ok
            | some as =>
              rw [e3] at h
              cases h
              exact T.spec C e2 (args e3)
          · cases h; exact stk_ok
    · unfold cc at h
      split at h
      · exact (cBoolsT_ok (iht sv X Wx C) h).pt
      · rename_i a pos
        cases e1 : cc ct n sv true a with
        | none => rw [e1] at h; cases h
        | some u =>
          rw [e1] at h
          cases h
          exact PT.imp (pt_not (iht sv X Wx C a u e1)) fun σ H Q h => denT_not h
      · cases h
      · rename_i a o b pos
        split at h
        rotate_left
        · cases h
        rename_i f es e1
        cases e2 : cArgs (cc ct n sv false) es with
        | none => rw [e2] at h; cases h
        | some as =>
          rw [e2] at h
          cases h
          exact (T.csp C e1 (args e2)).2
      · rename_i a o o2 b c pos
        cases e1 : cc ct n sv false a with
        | none => rw [e1] at h; cases h
        | some ta =>
          cases e2 : cc ct n sv false b with
          | none => rw [e1, e2] at h; cases h
          | some tb =>
            cases e3 : cc ct n sv false c with
            | none => rw [e1, e2, e3] at h; cases h
            | some tc =>
              rw [e1, e2, e3] at h
              dsimp only at h
              split at h
              · cases h
              rename_i hm
              cases h
              exact PT.imp (pt_chain (T.cmp C o) (T.cmp C o2) (ihv sv X Wx C a ta e1) (ihv sv X Wx C b tb e2) (ihv sv X Wx C c tc e3) (by simpa using hm)) fun σ H Q h => den_chn (denT_den h)
      · cases h
      · cases h
      · rename_i eX h1 h2 h3 h4 h5 h6 h7
        cases e1 : cc ct n sv false e with
        | none => rw [e1] at h; cases h
        | some u =>
          rw [e1] at h
          cases h
          exact tru_test C.kk (ihv sv X Wx C e u e1) (isTrue_pl (fun op vs p z => h1 op vs p z) (fun a p z => h2 a p z) (fun a b c p z => h3 a b c p z) fun a b c p z => h6 a b c p z)
end
end MP

end
-- MPT
section
/-! MPT: match statements over constants. -/
namespace MP
open PySem L2
section
variable {P : Program} {w : World} {K : PySem.W.Frag} {mg : Str → Option Value} {base : Heap} {k : Nat} {ct : Ct} {fu : Nat} {sv : Sv} {X : Cx} {Wx : WX}
theorem denSs_one {s : Sm} {D : Ends} {σ : L2.St} {H : Hp} (h : denSs K Wx fu (.cons s .nil) D σ H) : denS K Wx fu s D σ H := by
  obtain ⟨E, W, Γ, R, h⟩ := h
  refine ⟨E, W, Γ, R, ?_⟩
  simp only [exs] at h
  cases e : ex fu s Γ with
  | ok f Γ1 =>
    rw [e] at h
    cases f <;> exact h
  | exn x Γ1 => rw [e] at h; exact h
  | stuck => rw [e] at h; exact h
theorem match_ok (T : Tbl P w K mg base k ct) (C : Cv P w K mg base k ct.N sv X Wx) {f : List Stmt → Option Ss} (hf : ∀ ss r, f ss = some r → PSs X ss (denSs K Wx fu r)) {i : Nat} {v : V} {u : Value} (ru : RelV v u) :
    ∀ {cases : List MatchCase} {r : Ss}, cMt (ct.cmp .Eq) i f cases = some r → ∀ (pins : List (Addr × Obj)) (s : Shared) (σ : L2.St) (H : Hp) (D : Ends) (first : Bool), Inv X pins σ H s → σ[i]? = some (some v) → denSs K Wx fu r D σ H →
      wpAny (model X.prog X.w) X.A (matchCases cases X.env u first) (SP X pins D) X.xe s := by
  intro cases
  induction cases with
  | nil =>
    intro r hc pins s σ H D first I hi h
    simp only [cMt] at hc
    cases hc
    exact wpAny_matchCases_nil ⟨σ, H, I, denSs_nil h⟩
  | cons c rest ih =>
    intro r hc pins s σ H D first I hi h
    unfold cMt at hc
    split at hc
    · rename_i e1; cases e1
    · rename_i cv j cp pp body rest' e1
      cases e1
      split at hc
      · rename_i d b r' h1 h2 h3
        cases hc
        have q := denS_ite (denSs_one h)
        have q2 := rP_op (denT_den q)
        obtain ⟨v', e2, q3⟩ := den_var q2
        rw [hi] at e2
        cases e2
        refine wpAny_matchCases_cons (wpAny_matchPattern_Value (thn ((constD_ok (X := X) (Wx := Wx) (j := j) (pos := cp) h1).run pins s σ H _ I q3) fun x s1 ⟨y, H1, I1, r1, q4⟩ => ?_))
        refine thn (T.cmp C .Eq pins s1 σ H1 v y u x _ I1 ru r1 q4) fun cv s2 ⟨z, H2, I2, r2, q5⟩ => ?_
        obtain ⟨bb, rfl, q5⟩ := q5
        cases (show cv = Value.bool bb from r2)
        refine wpAny_truthy_bool ?_
        cases bb with
        | true => exact wpAny_assignInOrder_none ((hf _ _ h2).run pins s2 σ H2 D I2 q5)
        | false => exact ih h3 pins s2 σ H2 D false I2 hi q5
      · cases hc
    · rename_i pp body rest' e1
      cases e1
      exact wpAny_matchCases_cons (wpAny_matchPattern_Capture (wpAny_assignInOrder_none ((hf _ _ hc).run pins s σ H D I h)))
    · cases hc
theorem pmatch (T : Tbl P w K mg base k ct) (C : Cv P w K mg base k ct.N sv X Wx) {f : List Stmt → Option Ss} (hf : ∀ ss r, f ss = some r → PSs X ss (denSs K Wx fu r)) {i : Nat} {x : Str} (hi : X.N[i]? = some x) (hv : Vis X.env.scope x) (hn : nmB x = true) {cases : List MatchCase} {r : Ss} (hc : cMt (ct.cmp .Eq) i f cases = some r) {p pos : Pos} :
    PS X (.Match (.Name x p) cases pos) (denS K Wx fu (.ite (.prim pYes (.cons (.var i) .nil)) r .nil)) := by
  obtain ⟨n1, n2⟩ := nmB_ok hn
  refine ⟨fun pins s σ H D I h => ?_⟩
  have q := denT_den (denS_ite h)
  obtain ⟨v, hiv, q⟩ := den_var (den_prim1 q)
  have pv := pe_var (X := X) hi hv n1 n2 (pos := p)
  refine wpAny_Match (thn (pv.run pins s σ H (fun y H' => y = v ∧ H' = H) I ⟨v, hiv, rfl, rfl⟩) fun u s1 ⟨y, H1, I1, r1, e1, e2⟩ => ?_)
  subst e1 e2
  obtain ⟨W, ds, o, l, tp, e, k1⟩ := q
  cases e
  obtain ⟨b, e3, q⟩ := k1 (.bl true) W H1 (PSt.refl l) (.dat (.bl true))
  cases e3
  exact match_ok T C hf r1 hc pins s1 σ H1 D true I1 hiv q
end
end MP

end
-- MPU
section
/-! MPU: fields. -/
namespace MP
open PySem L2
theorem putN_names (f : Str) (y : V) (d : D) : ∀ (fs : List (Str × V)) (vs : List D), vs.length = fs.length → (putF f y fs).map (·.1) = (putN f d (fs.map (·.1)) vs).1
  | [], vs, _ => by cases vs <;> rfl
  | (g, x) :: fs, [], h => by simp at h
  | (g, x) :: fs, v :: vs, h => by
    simp only [putF, List.map_cons, putN]
    split
    · rfl
    · simp only [List.map_cons]
      rw [putN_names f y d fs vs (by simpa using h)]
theorem putN_vals {K : PySem.W.Frag} {W : Hp} {f : Str} {y : V} {d : D} (hy : Dr K W y d) : ∀ {fs : List (Str × V)} {vs : List D}, DrA K W (fs.map (·.2)) vs → DrA K W ((putF f y fs).map (·.2)) (putN f d (fs.map (·.1)) vs).2
  | [], vs, h => by
    cases h
    exact .cons hy .nil
  | (g, x) :: fs, vs0, h => by
    cases h with
    | @cons _ _ v vs h1 h2 =>
      simp only [putF, List.map_cons, putN]
      split
      · exact .cons hy h2
      · exact .cons h1 (putN_vals hy h2)
section
variable {K : PySem.W.Frag} {Wx : WX} {c c1 : Cf} {E0 : Ends} {σ : St} {H : Hp} {n : Nat}
theorem denS_fld {cs : List Str} {f : Str} {i : Nat} {t : Tm} (hc : ∀ c ∈ cs, Cls K (He.ga K c) ∧ NoAttr K (He.ga K c) f) (h : denS K Wx n (.fld cs f i t) E0 σ H) : sFld K (tVar i) (den K Wx t) f E0 σ H := by
  obtain ⟨E, W, Γ, R, h⟩ := h
  simp only [ex] at h
  split at h
  rotate_left
  · exact h.elim
  rename_i hmt
  obtain ⟨b0, d0, g0⟩ := isMt_iff hmt
  obtain ⟨a, ea, _⟩ := R.mt i b0 d0 g0
  refine ⟨E, W, Γ, R, h.bindR.imp fun l c1 R1 S1 es h1 v Vv => ?_⟩
  obtain ⟨E1, W1, Γ1, σ1, H1⟩ := c1
  cases es
  obtain rfl : E1 = E := S1.ent
  dsimp only at h1
  cases ee : esc l Γ1 with
  | stuck => rw [ee] at h1; exact h1.elim
  | exn x Γ3 => exact (esc_ne ee).elim
  | ok d Γ3 =>
    rw [ee] at h1
    simp only [Rs.bind] at h1
    obtain ⟨W3, R3, S3, dv, x3, _, _⟩ := R1.esc S1 Vv ee
    cases g3 : Γ3[i]? with
    | none => rw [g3] at h1; exact h1.elim
    | some s =>
      rw [g3] at h1
      cases s with
      | no => exact h1.elim
      | dat d => exact h1.elim
      | lck b d => exact h1.elim
      | mt b o =>
        cases o with
        | obj cl ns vs =>
          dsimp only at h1
          split at h1
          rotate_left
          · exact h1.elim
          rename_i cond
          obtain ⟨hl, hcs⟩ := cond
          obtain ⟨a', z1, z2, z3, z4⟩ := R3.mt i b _ g3
          have za : σ[i]? = some (some (V.ref a')) := z1
          rw [ea] at za
          cases za
          obtain ⟨k1, k2⟩ := hc cl (by simpa using hcs)
          generalize hns : ns = nn at z3 hl h1 g3
          cases z3 with
          | @obj dx _ fs _ hm hr =>
            have len : vs.length = fs.length := by have := hr.length; simpa using this.symm
            refine ⟨.ref a, ea, a, _, dx, fs, rfl, hm, k1, k2, by simp at hl; omega, ?_⟩
            have ms : MSt K W3 H1 a (.obj cl (putN f d (fs.map (·.1)) vs).1 (putN f d (fs.map (·.1)) vs).2) W3 (upd H1 a (.ins (He.ga K cl) dx (putF f v fs))) := by
              refine ⟨Ex.refl _, fun x o e => ?_, fun x o e ne => by rw [upd_ne ne]; exact e, ?_, z2, fun x e => .inl e⟩
              · have ne : x ≠ a := fun z => by rw [z] at e; rw [show W3 a = none from z2] at e; cases e
                rcases R3.le x o e with q | ⟨ob, q, t⟩
                · exact .inl (by rw [upd_ne ne]; exact q)
                · exact .inr ⟨ob, by rw [upd_ne ne]; exact q, t⟩
              · have z := MutAt.obj (K := K) (W := W3) (a := a) (dx := dx) (c := cl) (fs := putF f v fs) (H := upd H1 a (.ins (He.ga K cl) dx (putF f v fs))) upd_same (putN_vals (f := f) dv hr)
                rw [putN_names f v d fs vs len] at z
                exact z
            obtain ⟨R4, S4⟩ := R3.mst g3 z1 ms
            exact h1 W3 σ _ R4 (S3.trans S4)
        | _ => exact h1.elim
end
end MP

end
-- MPD
section
/-! MPD: the compiled code does what the text does: statements and defs. -/
namespace MP
open PySem L2
section
variable {P : Program} {w : World} {K : PySem.W.Frag} {mg : Str → Option Value} {base : Heap} {k : Nat} {ct : Ct} {fu : Nat}
theorem sw_plain {e : Expr} {tg : Option Expr} {l : Nat} {env : Env} (h : notComp e = true) : swapsWith e tg l env = pure false := by
  cases e <;> first | rfl | (simp [notComp] at h)
theorem sw_lc {elt : Expr} {gs : List Comprehension} {scope : Scope} {pos py : Pos} {y : Str} {l : Nat} {env : Env} : ∃ b, swapsWith (.ListComp elt gs scope pos) (some (.Name y py)) l env = pure b ∧ (b = true → env.kindOf y = some .local) := by
  refine ⟨_, rfl, fun h => ?_⟩
  simp only [Bool.and_eq_true] at h
  simpa using h.1.1.2
theorem sw_dc {kx vx : Expr} {gs : List Comprehension} {scope : Scope} {pos py : Pos} {y : Str} {l : Nat} {env : Env} : ∃ b, swapsWith (.DictComp kx vx gs scope pos) (some (.Name y py)) l env = pure b ∧ (b = true → env.kindOf y = some .local) := by
  refine ⟨_, rfl, fun h => ?_⟩
  simp only [Bool.and_eq_true] at h
  simpa using h.1.1.2
theorem sw_sub {e o k : Expr} {p : Pos} {l : Nat} {env : Env} : swapsWith e (some (.Subscript o k p)) l env = pure false := by
  cases e <;> rfl
theorem sw_att {e o : Expr} {f : Str} {p : Pos} {l : Nat} {env : Env} : swapsWith e (some (.Attribute o f p)) l env = pure false := by
  cases e <;> rfl
theorem nev_ok {X : Cx} {Wx : WX} {st : Stmt} : PS X st (denS K Wx fu .nev) := ⟨fun pins s σ H D I h => by
  obtain ⟨E, W, Γ, R, h⟩ := h
  simp only [ex] at h
  exact h.elim⟩
theorem cSs_ok {X : Cx} {Wx : WX} {f : Stmt → Option Sm} (hf : ∀ st s, f st = some s → PS X st (denS K Wx fu s)) : ∀ {ss : List Stmt} {r : Ss}, cSs f ss = some r → PSs X ss (denSs K Wx fu r)
  | [], r, h => by simp only [cSs] at h; cases h; exact PSs.imp pss_nil fun D σ H h => denSs_nil h
  | s :: ss, r, h => by
    unfold cSs at h
    cases e2 : cSs f ss with
    | none => rw [e2] at h; cases h
    | some b =>
      rw [e2] at h
      cases h
      have q : PS X s (denS K Wx fu ((f s).getD .nev)) := by
        cases e1 : f s with
        | none => exact nev_ok
        | some a => exact hf s a e1
      exact PSs.imp (pss_cons q (cSs_ok hf e2)) fun D σ H h => denSs_cons h
theorem tAsg_imp {t t' : TE} {g : TG} {D : Ends} {σ : St} {H : Hp} (h : tAsg t' g D σ H) (i : ∀ σ H Q, t' σ H Q → t σ H Q) : tAsg t g D σ H := i _ _ _ h
theorem swp2_ok {env : Env} {x y : Str} {px py pt pt2 : Pos} {kt k2 : Nat} {a b : Expr} (hk : env.scope.kind = .function) (h : swp2 env.scope x y px py a b = true) :
    swappedStores [.Tuple [.Name x px, .Name y py] kt pt] (.Tuple [a, b] k2 pt2) env = pure (some [x, y]) := by
  unfold swp2 at h
  simp only [Bool.and_eq_true, Bool.not_eq_true'] at h
  obtain ⟨⟨⟨⟨⟨⟨⟨h1, h2⟩, h3⟩, h4⟩, h5⟩, h6⟩, h7⟩, h8⟩ := h
  have l1 : (px.line == px.line) = true := by simp
  have k1 : (env.kindOf x == some .local && px.line == px.line) = true := by rw [l1, Bool.and_true]; exact h1
  have k2' : (env.kindOf y == some .local && py.line == px.line) = true := by rw [h4, Bool.and_true]; exact h2
  have e1 : ([x, y].eraseDups.length != 2) = false := by
    have : (y == x) = false := by
      cases q : (y == x) with
      | false => rfl
      | true => rw [eq_of_beq q] at h3; simp at h3
    simp [List.eraseDups_cons, this]
  unfold swappedStores
  simp only [pure_bind]
  rw [if_neg (by simp [Env.blockKind, hk]), if_neg (fun z => by
    simp only [List.any_cons, List.any_nil, Bool.or_false, Bool.or_eq_true] at z
    rcases z with z | z
    · cases a <;> first | (simp [notStar] at h5; done) | cases z
    · cases b <;> first | (simp [notStar] at h6; done) | cases z)]
  have g1 : (if env.kindOf x == some NameKind.local && px.line == px.line then some x else none) = some x := if_pos k1
  have g2 : (if env.kindOf y == some NameKind.local && py.line == px.line then some y else none) = some y := if_pos k2'
  simp only [List.filterMap_cons, List.filterMap_nil, List.head?_cons, Option.map_some, Option.getD_some, Expr.pos, k1, k2', ↓reduceIte]
  rw [if_neg (by rw [show [x, y].length = 2 from rfl, show [Expr.Name x px, Expr.Name y py].length = 2 from rfl, e1]; decide), if_neg (by rw [h7]; decide), if_neg (by rw [h8]; decide)]
theorem fm_lt {α β : Type} {f : α → Option β} : ∀ {l : List α}, (∃ x ∈ l, f x = none) → (l.filterMap f).length < l.length
  | [], h => by obtain ⟨x, hx, _⟩ := h; cases hx
  | y :: r, h => by
    obtain ⟨x, hx, hf⟩ := h
    cases e : f y with
    | none =>
      rw [List.filterMap_cons_none e]
      exact Nat.lt_succ_of_le (List.length_filterMap_le _ _)
    | some z =>
      rw [List.filterMap_cons_some e]
      rcases List.mem_cons.mp hx with q | q
      · rw [q, e] at hf; cases hf
      · exact Nat.succ_lt_succ (fm_lt ⟨x, q, hf⟩)
theorem nsw_ok {env : Env} {ts : List Expr} {kt : Nat} {pt : Pos} {e : Expr} (h : nsw env.scope ts = true) : swappedStores [.Tuple ts kt pt] e env = pure none := by
  cases e with
  | Tuple vs k2 p2 =>
    unfold swappedStores
    simp only [pure_bind]
    split
    · rfl
    split
    · rfl
    rw [if_pos]
    have q : ∀ l, (ts.filterMap (fun | .Name id pos => if env.kindOf id == some .local && pos.line == l then some id else none | _ => none)).length < ts.length := fun l => by
      refine fm_lt ?_
      obtain ⟨x, hx, h1⟩ := List.any_eq_true.mp h
      refine ⟨x, hx, ?_⟩
      cases x with
      | Name y p =>
        have h1' : (env.kindOf y == some .local) = false := by simpa [Env.kindOf] using h1
        simp [h1']
      | _ => rfl
    simp only [Bool.or_eq_true, bne_iff_ne]
    exact .inl (Nat.ne_of_lt (q _))
  | _ => rfl
theorem cS_ok (T : Tbl P w K mg base k ct) {sv : Sv} {X : Cx} {Wx : WX} (C : Cv P w K mg base k ct.N sv X Wx) : ∀ (n : Nat) (st : Stmt) (s : Sm), cS ct sv n st = some s → PS X st (denS K Wx fu s)
  | 0, st, s, h => by simp [cS] at h
  | n + 1, st, s, h => by
    have ihv : ∀ e t, cc ct n sv false e = some t → PE X e (den K Wx t) := fun e t => (cc_ok T n sv X Wx C e t).1
    have iht : ∀ e t, cc ct n sv true e = some t → PT X e (denT K Wx t) := fun e t => (cc_ok T n sv X Wx C e t).2
    have ihs : ∀ st s, cS ct sv n st = some s → PS X st (denS K Wx fu s) := cS_ok T C n
    unfold cS at h
    split at h
    · -- name = e
      rename_i x px e pos
      split at h
      rotate_left
      · cases h
      rename_i hb
      simp only [Bool.and_eq_true] at hb
      cases e1 : ixOf ct.N x with
      | none => rw [e1] at h; cases h
      | some i =>
        rw [e1] at h
        dsimp only at h
        have nd : X.N.Nodup := by rw [C.n]; exact C.nd
        have hi : X.N[i]? = some x := by rw [C.n]; exact ixOf_get e1
        have hl : L2.Loc X.env.scope x := by rw [C.sc]; exact locB_ok hb.1
        have hf := C.fn x hb.2
        split at h
        · rename_i elt tg iter ifs scope lp
          cases e2 : cLc ct (cc ct n) sv elt tg iter ifs scope with
          | none => rw [e2] at h; cases h
          | some p =>
            rw [e2] at h
            cases h
            have L := cLc_ok T C (fun sv X Wx C e t => (cc_ok T n sv X Wx C e t).1) (fun sv X Wx C e t => (cc_ok T n sv X Wx C e t).2) e2
            obtain ⟨b, hsw, hbl⟩ := sw_lc (elt := elt) (gs := [⟨tg, iter, ifs, 0⟩]) (scope := scope) (pos := lp) (py := px) (y := x) (l := pos.line) (env := X.env)
            cases b with
            | true => exact PS.imp (ps_setLc C.calm nd hi (hbl rfl) hsw L.pi L.blk L.pg L.pt L.pe L.hs) fun D σ H h => tAsg_imp (denS_set h) fun σ H Q z => den_lc L.own z
            | false => exact PS.imp (ps_set nd hi hl (pe_lc C.calm nd L.pi L.blk L.pg L.pt L.pe L.hs) hsw hf) fun D σ H h => tAsg_imp (denS_set h) fun σ H Q z => den_lc L.own z
        · cases h
        · cases h
        · rename_i kx vx tg iter ifs scope lp
          cases e2 : cDc ct (cc ct n) sv kx vx tg iter ifs scope with
          | none => rw [e2] at h; cases h
          | some q =>
            rw [e2] at h
            cases h
            obtain ⟨L, pk⟩ := cDc_ok T C (fun sv X Wx C e t => (cc_ok T n sv X Wx C e t).1) (fun sv X Wx C e t => (cc_ok T n sv X Wx C e t).2) e2
            obtain ⟨b, hsw, hbl⟩ := sw_dc (kx := kx) (vx := vx) (gs := [⟨tg, iter, ifs, 0⟩]) (scope := scope) (pos := lp) (py := px) (y := x) (l := pos.line) (env := X.env)
            cases b with
            | true => exact T.dcS C L pk hi (hbl rfl) hsw
            | false => exact PS.imp (ps_set nd hi hl (T.dcE C L pk) hsw hf) fun D σ H h => denS_set h
        · cases h
        · rename_i eX h1 h2 h3 h4 h5
          cases e2 : cc ct n sv false e with
          | none => rw [e2] at h; cases h
          | some t =>
            rw [e2] at h
            cases h
            have nc : notComp e = true := by
              cases e <;> first | rfl | exact (h2 _ _ _ _ rfl).elim | exact (h3 _ _ _ _ rfl).elim | exact (h5 _ _ _ _ _ rfl).elim
            exact PS.imp (ps_set nd hi hl (ihv e t e2) (sw_plain nc) hf) fun D σ H h => denS_set h
    · rename_i x px y py kt pt a b k2 pt2 pos
      split at h
      rotate_left
      · split at h
        rotate_left
        · cases h
        rename_i hw
        cases e1 : cTg ct.N sv 10 (.Tuple [.Name x px, .Name y py] kt pt) with
        | none => rw [e1] at h; cases h
        | some t =>
          cases e2 : cc ct n sv false (.Tuple [a, b] k2 pt2) with
          | none => rw [e1, e2] at h; cases h
          | some u =>
            rw [e1, e2] at h
            cases h
            rw [← C.sc] at hw
            exact PS.imp (ps_asg (ihv _ u e2) (cTg_ok C e1) (by unfold swapsWithSole; exact sw_plain rfl) (nsw_ok hw) rfl) fun D σ H h => denS_unp h
      rename_i hb
      cases e1 : ixOf ct.N x with
      | none => rw [e1] at h; cases h
      | some i =>
        cases e2 : ixOf ct.N y with
        | none => rw [e1, e2] at h; cases h
        | some j =>
          cases e3 : cArgs (cc ct n sv false) [a, b] with
          | none => rw [e1, e2, e3] at h; cases h
          | some as =>
            rw [e1, e2, e3] at h
            cases h
            rw [← C.sc] at hb
            have hb' := hb
            unfold swp2 at hb'
            simp only [Bool.and_eq_true, Bool.not_eq_true'] at hb'
            obtain ⟨⟨⟨⟨⟨⟨⟨h1, h2⟩, h3⟩, h4⟩, h5⟩, h6⟩, h7⟩, h8⟩ := hb'
            have ij : i ≠ j := fun z => by
              subst z
              have := ixOf_get e1
              rw [ixOf_get e2] at this
              cases this
              simp at h3
            exact PS.imp (ps_par C.calm (by rw [C.n]; exact C.nd) (by rw [C.n]; exact ixOf_get e1) (by rw [C.n]; exact ixOf_get e2) ij (by simpa using h1) (by simpa using h2) ((cArgs_ok ihv e3).pa (by simp [h5, h6])) (swp2_ok C.kd hb) (by unfold swapsWithSole; exact sw_plain rfl)) fun D σ H h => denS_par2 h
    · rename_i es kt pt e pos hne
      split at h
      rotate_left
      · cases h
      rename_i hb
      simp only [Bool.and_eq_true] at hb
      cases e1 : cTg ct.N sv 10 (.Tuple es kt pt) with
      | none => rw [e1] at h; cases h
      | some t =>
        cases e2 : cc ct n sv false e with
        | none => rw [e1, e2] at h; cases h
        | some u =>
          rw [e1, e2] at h
          cases h
          have nt := hb.2
          rw [← C.sc, Bool.or_eq_true] at nt
          have sw : swappedStores [.Tuple es kt pt] e X.env = pure none := by
            rcases nt with nt | nt
            · cases e <;> first | rfl | (simp [notTupE] at nt)
            · exact nsw_ok nt
          exact PS.imp (ps_asg (ihv e u e2) (cTg_ok C e1) (by unfold swapsWithSole; exact sw_plain hb.1) sw rfl) fun D σ H h => denS_unp h
    · cases h
      exact PS.imp ps_doc fun D σ H h => denS_pas h
    · rename_i e pos _
      split at h
      rotate_left
      · cases h
      rename_i hn
      cases e1 : cc ct n sv false e with
      | none => rw [e1] at h; cases h
      | some t =>
        rw [e1] at h
        cases h
        exact PS.imp (ps_expr (ihv e t e1) (sw_plain hn)) fun D σ H h => denS_drop h
    · rename_i e pos
      cases e1 : cc ct n sv false e with
      | none => rw [e1] at h; cases h
      | some t =>
        rw [e1] at h
        cases h
        exact PS.imp (ps_ret (ihv e t e1)) fun D σ H h => denS_ret h
    · cases h
      refine PS.imp ps_retN fun D σ H h => ?_
      exact den_con (v := .non) (fun _ => .non) (denS_ret h)
    · rename_i c a b pos
      cases e1 : cc ct n sv true c with
      | none => rw [e1] at h; cases h
      | some tc =>
        cases e2 : cSs (cS ct sv n) a with
        | none => rw [e1, e2] at h; cases h
        | some ta =>
          cases e3 : cSs (cS ct sv n) b with
          | none => rw [e1, e2, e3] at h; cases h
          | some tb =>
            rw [e1, e2, e3] at h
            cases h
            exact PS.imp (ps_if (iht c tc e1) (cSs_ok ihs e2) (cSs_ok ihs e3)) fun D σ H h => denS_ite h
    · rename_i tg iter body pos
      split at h
      rotate_left
      · cases h
      rename_i hs
      cases e1 : ct.isp sv.sc tg iter with
      | none => rw [e1] at h; cases h
      | some q =>
        obtain ⟨g, wr, es⟩ := q
        cases e2 : cTg ct.N sv 10 tg with
        | none => rw [e1, e2] at h; cases h
        | some t =>
          cases e3 : cSs (cS ct sv n) body with
          | none => rw [e1, e2, e3] at h; cases h
          | some b =>
            rw [e1, e2, e3] at h
            dsimp only at h
            cases e4 : cArgs (cc ct n sv false) es with
            | none => rw [e4] at h; cases h
            | some as =>
              rw [e4] at h
              cases h
              exact PS.imp (ps_for C.own C.calm (T.isp C e1 (cArgs_ok ihv e4)) (cTg_ok C e2) (cSs_ok ihs e3) (notSet_ok hs)) fun D σ H h => denS_for h
    · rename_i c body pos
      cases e1 : cc ct n sv true c with
      | none => rw [e1] at h; cases h
      | some tc =>
        cases e2 : cSs (cS ct sv n) body with
        | none => rw [e1, e2] at h; cases h
        | some b =>
          rw [e1, e2] at h
          cases h
          exact PS.imp (ps_while C.own (iht c tc e1) (cSs_ok ihs e2)) fun D σ H h => denS_whl h
    · rename_i x p1 kk p2 e pos
      split at h
      rotate_left
      · cases h
      rename_i hb
      simp only [Bool.and_eq_true] at hb
      cases e1 : ixOf ct.N x with
      | none => rw [e1] at h; cases h
      | some i =>
        cases e2 : cc ct n sv false kk with
        | none => rw [e1, e2] at h; cases h
        | some tk =>
          cases e3 : cc ct n sv false e with
          | none => rw [e1, e2, e3] at h; cases h
          | some t =>
            rw [e1, e2, e3] at h
            cases h
            obtain ⟨n1, n2⟩ := nmB_ok hb.2
            have hsl : notSlice kk = true := hb.1.1
            have sw : swapsWithSole [.Subscript (.Name x p1) kk p2] e pos.line X.env = pure false := by
              unfold swapsWithSole
              exact sw_sub
            exact PS.imp (ps_asg (ihv e t e3) (pg_sub (pe_var (i := i) (by rw [C.n]; exact ixOf_get e1) (by rw [C.sc]; exact visB_ok hb.1.2) n1 n2) (ihv kk tk e2) (T.sst C) (fun v => by cases kk <;> first | rfl | (simp [notSlice] at hsl))) sw rfl rfl) fun D σ H h => denS_sub h
    · rename_i x p1 f p2 e pos
      split at h
      rotate_left
      · cases h; exact nev_ok
      rename_i hb
      simp only [Bool.and_eq_true] at hb
      cases e1 : ixOf ct.N x with
      | none => rw [e1] at h; cases h; exact nev_ok
      | some i =>
        cases e2 : ct.flds.lookup f with
        | none => rw [e1, e2] at h; cases h; exact nev_ok
        | some cs =>
          cases e3 : cc ct n sv false e with
          | none => rw [e1, e2, e3] at h; cases h; exact nev_ok
          | some t =>
            rw [e1, e2, e3] at h
            cases h
            obtain ⟨n1, n2⟩ := nmB_ok hb.2
            have kk := C.kk
            subst kk
            exact PS.imp (ps_fld (pe_var (i := i) (by rw [C.n]; exact ixOf_get e1) (by rw [C.sc]; exact visB_ok hb.1) n1 n2) (ihv e t e3) (sw_att)) fun D σ H h => denS_fld (T.flds f cs e2) h
    · rename_i x p1 cs pos
      split at h
      rotate_left
      · cases h; exact nev_ok
      rename_i hb
      simp only [Bool.and_eq_true] at hb
      cases e1 : ixOf ct.N x with
      | none => rw [e1] at h; cases h; exact nev_ok
      | some i =>
        rw [e1] at h
        dsimp only at h
        cases e2 : cMt (ct.cmp .Eq) i (cSs (cS ct sv n)) cs with
        | none => rw [e2] at h; cases h; exact nev_ok
        | some r =>
          rw [e2] at h
          cases h
          exact pmatch T C (fun ss r hr => cSs_ok ihs hr) (by rw [C.n]; exact ixOf_get e1) (by rw [C.sc]; exact visB_ok hb.1) hb.2 e2
    · cases h
      exact PS.imp ps_break fun D σ H h => denS_brk h
    · cases h
      exact PS.imp ps_continue fun D σ H h => denS_cnt h
    · cases h
      exact PS.imp ps_pass fun D σ H h => denS_pas h
    · cases h
      exact PS.imp ps_never fun D σ H h => denS_nev h
    · cases h
      exact nev_ok
end
/-- a def of the text, compiled -/
def svOf (sc : Scope) : Sv := ⟨sc, fun _ => true⟩
theorem def_ok {P : Program} {w : World} {K : PySem.W.Frag} {mg : Str → Option Value} {base : Heap} {k n m : Nat} {ct : Ct} {x qual : Str} {params : Arguments} {body : List Stmt} {scope : Scope} {dvs : List V} {kws : List (Str × V)} {f : Addr} {fd : FuncData} {ps : List Str} {io : List Bool} {sm : Ss}
    (T : Tbl P w K mg base k ct) (F : FunD K x qual params body scope dvs kws f fd) (S : FnScope ct.N ps scope) (hio : io.length = ps.length) (hc : cSs (cS ct (svOf scope) m) body = some sm) :
    FnG P w K mg base (L2.CX P w) (k + 1) f fd ps (spF K ⟨io, runF io (ct.N.length - ps.length) n sm⟩) := by
  have hpl : ps.length ≤ ct.N.length := by have := congrArg List.length S.pre; rw [List.length_take] at this; omega
  refine fnG_of F S (fun vs H Q E h => ?_) (fun cdv A outer s H vs Q E hr hgd h => ⟨denSs K (fun cls d _ H => E cls d H) n sm, cSs_ok (cS_ok T (sv := svOf scope) ⟨⟨rfl, rfl, rfl, rfl, rfl, rfl, S.nd, rfl, rfl, hr, hgd, passes_of rfl, takes_of rfl rfl rfl rfl⟩, fun _ _ => .inl rfl, S.kind⟩ m) hc, ?_⟩)
  · obtain ⟨W, ds, _, a, _⟩ := h
    rw [a.length.1]
    exact hio
  · exact spF_start hio hpl h
end MP

end
-- MPE
section
/-! MPE: comparisons. -/
namespace MP
open PySem L2
mutual
def toPy : D → Option PyData
  | .non => some .none
  | .bl b => some (.bool b)
  | .int i => some (.int i)
  | .str x => some (.str x)
  | .tup xs => (toPyA xs).map .tuple
  | .lst xs => (toPyA xs).map .list
  | _ => none
def toPyA : List D → Option (List PyData)
  | [] => some []
  | x :: xs => match toPy x, toPyA xs with
    | some p, some ps => some (p :: ps)
    | _, _ => none
end
def shp (d : D) : Option PyData := match toPy d with
  | some p => if SeqAt.shaped p = true then some p else none
  | none => none
theorem shp_ok {d : D} {p : PyData} (h : shp d = some p) : toPy d = some p ∧ SeqAt.shaped p = true := by
  unfold shp at h
  split at h
  · rename_i q e
    split at h
    · rename_i hs
      cases h
      exact ⟨e, hs⟩
    · cases h
  · cases h
section
variable {K : PySem.W.Frag} {W H : Hp}
mutual
theorem Dr.dp (l : Le W H) : ∀ {v : V} {d : D} {p : PyData}, Dr K W v d → toPy d = some p → Dp K H v p
  | _, _, _, .non, e => by simp only [toPy] at e; cases e; exact .non
  | _, _, _, .bl b, e => by simp only [toPy] at e; cases e; exact .bl b
  | _, _, _, .int b, e => by simp only [toPy] at e; cases e; exact .int b
  | _, _, _, .str b, e => by simp only [toPy] at e; cases e; exact .str b
  | _, _, _, .tup (ds := ds) h r, e => by
    simp only [toPy] at e
    cases q : toPyA ds with
    | none => rw [q] at e; cases e
    | some ps => rw [q] at e; cases e; exact .tup (h.sq l) (DrA.dp l r q)
  | _, _, _, .lst (ds := ds) h r, e => by
    simp only [toPy] at e
    cases q : toPyA ds with
    | none => rw [q] at e; cases e
    | some ps => rw [q] at e; cases e; exact .lst (h.sq l) (DrA.dp l r q)
  | _, _, _, .dK _ _, e => by simp [toPy] at e
  | _, _, _, .dT _ _ _, e => by simp [toPy] at e
  | _, _, _, .obj _ _, e => by simp [toPy] at e
theorem DrA.dp (l : Le W H) : ∀ {vs : List V} {ds : List D} {ps : List PyData}, DrA K W vs ds → toPyA ds = some ps → DpAll K H vs ps
  | _, _, _, .nil, e => by simp only [toPyA] at e; cases e; exact .nil
  | _, _, _, .cons (d := d) (ds := ds) h r, e => by
    unfold toPyA at e
    cases q : toPy d with
    | none => rw [q] at e; cases e
    | some p =>
      cases q2 : toPyA ds with
      | none => rw [q, q2] at e; cases e
      | some ps => rw [q, q2] at e; cases e; exact .cons (Dr.dp l h q) (DrA.dp l r q2)
end
theorem Top.dp (l : Le W H) {v : V} {d : D} {p : PyData} (h : Top K W H v d) (e : toPy d = some p) : Dp K H v p := by
  cases h with
  | dat h => exact h.dp l e
  | mt h =>
    cases h with
    | @lst vs ds h r =>
      simp only [toPy] at e
      cases q : toPyA ds with
      | none => rw [q] at e; cases e
      | some ps => rw [q] at e; cases e; exact .lst (SqL.of h) (DrA.dp l r q)
    | _ => simp [toPy] at e
end
def pEq (neg : Bool) (a b : D) : Option Ou := match shp a, shp b with
  | some p, some q => some (.dat (.bl (if neg then !PyData.eqv p q else PyData.eqv p q)))
  | _, _ => none
def pIn (neg : Bool) (a b : D) : Option Ou := match a, b with
  | .str x, .str y => if x.length = 1 then some (.dat (.bl (if neg then !decide (x.cps.getD 0 0 ∈ y.cps.toList) else decide (x.cps.getD 0 0 ∈ y.cps.toList)))) else none
  | a, .lst ys => (match shp a, shp (.lst ys) with
    | some p, some (.list qs) => some (.dat (.bl (if neg then !(qs.any fun z => PyData.eqv z p) else qs.any fun z => PyData.eqv z p)))
    | _, _ => none)
  | a, .tup ys => (match shp a, shp (.tup ys) with
    | some p, some (.tuple qs) => some (.dat (.bl (if neg then !(qs.any fun z => PyData.eqv z p) else qs.any fun z => PyData.eqv z p)))
    | _, _ => none)
  | _, _ => none
def ints? : List D → Option (List Int)
  | [] => some []
  | .int i :: r => (ints? r).map (i :: ·)
  | _ :: _ => none
theorem ints?_ok : ∀ {ds : List D} {ns : List Int}, ints? ds = some ns → ds = ns.map D.int
  | [], ns, h => by simp only [ints?] at h; cases h; rfl
  | d :: ds, ns, h => by
    cases d with
    | int i =>
      simp only [ints?] at h
      cases q : ints? ds with
      | none => rw [q] at h; cases h
      | some ms => rw [q] at h; cases h; rw [ints?_ok q]; rfl
    | _ => simp [ints?] at h
theorem ints?_map : ∀ (ns : List Int), ints? (ns.map D.int) = some ns
  | [] => rfl
  | n :: ns => by simp [ints?, ints?_map ns]
def isNon : D → Bool
  | .non => true
  | _ => false
/-- ==: lists of different lengths are different, whatever they hold -/
def pEqF : D → D → Option Ou
  | .lst xs, .lst ys => if xs.length ≠ ys.length then some (.dat (.bl false)) else pEq false (.lst xs) (.lst ys)
  | a, b => pEq false a b
def pCmp : CmpOp → List D → Option Ou
  | .Eq, [a, b] => pEqF a b
  | .NotEq, [a, b] => pEq true a b
  | .Lt, [.int i, .int j] => some (.dat (.bl (decide (i < j))))
  | .LtE, [.int i, .int j] => some (.dat (.bl (decide (i ≤ j))))
  | .Gt, [.int i, .int j] => some (.dat (.bl (decide (j < i))))
  | .GtE, [.int i, .int j] => some (.dat (.bl (decide (j ≤ i))))
  | .Lt, [.tup xs, .tup ys] => (match ints? xs, ints? ys with
    | some ns, some ms => some (.dat (.bl (HT.lexLt ns ms)))
    | _, _ => none)
  | .In, [a, b] => pIn false a b
  | .NotIn, [a, b] => pIn true a b
  | .Is, [a, .non] => some (.dat (.bl (isNon a)))
  | .IsNot, [a, .non] => some (.dat (.bl (!isNon a)))
  | _, _ => none
section
variable {P : Program} {w : World} {K : PySem.W.Frag} {mg : Str → Option Value} {base : Heap} {k : Nat} {N : List Str} {sv : Sv} {X : Cx} {Wx : WX}
theorem rIn_tup {X : Cx} {neg : Bool} (hu : X.A.units + 65 < cLine) : ∀ (pins : List (Addr × Obj)) (s : Shared) (σ : St) (H : Hp) (x y : V) (v u : Value) (Q : VK) (d : PyData) (ds : List PyData), Inv X pins σ H s → RelV x v → RelV y u →
    Dp X.K H x d → Dp X.K H y (.tuple ds) → SeqAt.shaped d = true → SeqAt.shaped (.tuple ds) = true → Q (.bl (if neg then !(ds.any fun z => PyData.eqv z d) else ds.any fun z => PyData.eqv z d)) H →
    wpAny (model X.prog X.w) X.A (compareOp (if neg then .NotIn else .In) v u) (EP X pins σ Q) X.xe s := by
  intro pins s σ H x y v u Q d ds I rx ry hd he sd se q
  obtain ⟨as, r1⟩ := Dp.reads I d x v hd rx
  obtain ⟨bs, r2⟩ := Dp.reads I (.tuple ds) y u he ry
  cases neg with
  | false => exact SeqAt.in_tuple_reads r2 r1 (SeqAt.canLay_of_shaped se) (SeqAt.canLay_of_shaped sd) (PyProof.Rows.room_in_shaped sd hu) ⟨.bl _, H, I, rfl, q⟩
  | true => exact SeqAt.notIn_tuple_reads r2 r1 (SeqAt.canLay_of_shaped se) (SeqAt.canLay_of_shaped sd) (PyProof.Rows.room_in_shaped sd hu) ⟨.bl _, H, I, rfl, q⟩
theorem Top.tupInts {W H : Hp} (l : Le W H) {x : V} {xs : List D} {ns : List Int} (h : Top K W H x (.tup xs)) (e : ints? xs = some ns) : ∃ a, x = .ref a ∧ SqT K H a (ns.map V.int) := by
  have e' := ints?_ok e
  subst e'
  cases h with
  | dat h =>
    cases h with
    | tup h r =>
      have := r.toInts
      subst this
      exact ⟨_, rfl, h.sq l⟩
  | mt h => cases h
theorem sign_eq {x : Str} (h : x.length = 1) : x = ⟨#[x.cps.getD 0 0]⟩ := by
  obtain ⟨c⟩ := x
  obtain ⟨c⟩ := c
  cases c with
  | nil => cases h
  | cons a r =>
    cases r with
    | nil => rfl
    | cons _ _ => simp [Str.length] at h
theorem pCmp_ok (C : Cv P w K mg base k N sv X Wx) (o : CmpOp) : OpR X (compareOp o) (fun x y => rP K (pCmp o) [x, y]) := by
  have kk := C.kk
  subst kk
  have hu : X.A.units + 65 < cLine := by have := C.room.un; omega
  intro pins s σ H x y v u Q I rx ry h
  obtain ⟨W, ds, ou, l, tp, e, k1⟩ := h
  cases tp with
  | @cons _ _ a _ ta tp =>
  cases tp with
  | @cons _ _ b _ tb tp =>
  cases tp
  have fin : ∀ {b}, ou = .dat (.bl b) → Q (.bl b) H := fun {b} e => by
    subst e
    exact k1 (.bl b) W H (PSt.refl l) (.dat (.bl b))
  have si : ∀ {z i}, Top X.K W H z (.int i) → z = .int i := fun {z i} h => by
    cases h with
    | dat h => cases h; rfl
    | mt h => cases h
  have ss : ∀ {z i}, Top X.K W H z (.str i) → z = .str i := fun {z i} h => by
    cases h with
    | dat h => cases h; rfl
    | mt h => cases h
  have sn : ∀ {z}, Top X.K W H z .non → z = .non := fun {z} h => by
    cases h with
    | dat h => cases h; rfl
    | mt h => cases h
  have sx : ∀ {z d}, Top X.K W H z d → decide (z = .non) = isNon d := fun {z d} h => by
    cases h with
    | dat h => cases h <;> simp [isNon]
    | mt h => cases h <;> simp [isNon]
  have eqs : ∀ {neg : Bool}, pEq neg a b = some ou → ∃ d e, Dp X.K H x d ∧ Dp X.K H y e ∧ SeqAt.shaped d = true ∧ SeqAt.shaped e = true ∧ Q (.bl (if neg then !PyData.eqv d e else PyData.eqv d e)) H := fun {neg} e => by
    unfold pEq at e
    split at e
    · rename_i p q e1 e2
      cases e
      exact ⟨p, q, ta.dp l (shp_ok e1).1, tb.dp l (shp_ok e2).1, (shp_ok e1).2, (shp_ok e2).2, fin rfl⟩
    · cases e
  have ins : ∀ {neg : Bool}, pIn neg a b = some ou → wpAny (model X.prog X.w) X.A (compareOp (if neg then .NotIn else .In) v u) (EP X pins σ Q) X.xe s := fun {neg} e => by
    unfold pIn at e
    split at e
    · rename_i x1 y1
      split at e
      rotate_left
      · cases e
      rename_i h1
      cases e
      have e1 := ss ta
      have e2 := ss tb
      subst e1 e2
      have e3 := sign_eq h1
      cases neg with
      | false => exact op_in_sign pins s σ H _ _ v u Q I rx ry ⟨_, _, congrArg V.str e3, rfl, fin rfl⟩
      | true => exact op_notIn_sign pins s σ H _ _ v u Q I rx ry ⟨_, _, congrArg V.str e3, rfl, fin rfl⟩
    · rename_i ys hns
      split at e
      · rename_i p qs e1 e2
        cases e
        cases neg with
        | false => exact op_inD hu pins s σ H _ _ v u Q I rx ry ⟨p, qs, ta.dp l (shp_ok e1).1, tb.dp l (shp_ok e2).1, (shp_ok e1).2, (shp_ok e2).2, fin rfl⟩
        | true => exact op_notInD hu pins s σ H _ _ v u Q I rx ry ⟨p, qs, ta.dp l (shp_ok e1).1, tb.dp l (shp_ok e2).1, (shp_ok e1).2, (shp_ok e2).2, fin rfl⟩
      · cases e
    · rename_i ys hns
      split at e
      · rename_i p qs e1 e2
        cases e
        exact rIn_tup hu pins s σ H _ _ v u Q p qs I rx ry (ta.dp l (shp_ok e1).1) (tb.dp l (shp_ok e2).1) (shp_ok e1).2 (shp_ok e2).2 (fin rfl)
      · cases e
    · cases e
  unfold pCmp at e
  split at e
  · rename_i z; cases z
    have go : pEq false a b = some ou → wpAny (model X.prog X.w) X.A (compareOp .Eq v u) (EP X pins σ Q) X.xe s := fun e => by
      obtain ⟨d, e', h1, h2, h3, h4, q⟩ := eqs e
      exact op_eqD (by omega) pins s σ H _ _ v u Q I rx ry ⟨d, e', h1, h2, h3, h4, q⟩
    unfold pEqF at e
    split at e
    · split at e
      · rename_i hl
        cases e
        have lsq : ∀ {z ds}, Top X.K W H z (.lst ds) → ∃ p vs, z = .ref p ∧ SqL X.K H p vs ∧ vs.length = ds.length := fun {z ds} h => by
          cases h with
          | dat h =>
            cases h with
            | lst h r => exact ⟨_, _, rfl, h.sq l, r.length⟩
          | mt h =>
            cases h with
            | lst h r => exact ⟨_, _, rfl, SqL.of h, r.length⟩
        obtain ⟨p1, v1, rfl, s1, l1⟩ := lsq ta
        obtain ⟨p2, v2, rfl, s2, l2⟩ := lsq tb
        cases rx
        cases ry
        obtain ⟨i1, r1, q1, _⟩ := I.list s1
        obtain ⟨i2, r2, q2, _⟩ := I.list s2
        have g1 := r1.length
        have g2 := r2.length
        exact SeqAt.eq_list_lengthsAt q1.isList q2.isList (by simp only [List.size_toArray]; rw [bne_iff_ne]; omega) (by omega) ⟨.bl false, H, I, rfl, fin rfl⟩
      · exact go e
    · exact go e
  · rename_i z; cases z
    obtain ⟨d, e', h1, h2, h3, h4, q⟩ := eqs e
    exact op_neD (by omega) pins s σ H _ _ v u Q I rx ry ⟨d, e', h1, h2, h3, h4, q⟩
  · rename_i z; cases z; cases e
    exact op_lt pins s σ H _ _ v u Q I rx ry ⟨_, _, si ta, si tb, fin rfl⟩
  · rename_i z; cases z; cases e
    exact op_le pins s σ H _ _ v u Q I rx ry ⟨_, _, si ta, si tb, fin rfl⟩
  · rename_i z; cases z; cases e
    exact op_gt pins s σ H _ _ v u Q I rx ry ⟨_, _, si ta, si tb, fin rfl⟩
  · rename_i z; cases z; cases e
    exact op_ge pins s σ H _ _ v u Q I rx ry ⟨_, _, si ta, si tb, fin rfl⟩
  · rename_i z; cases z
    split at e
    · rename_i ns ms e1 e2
      cases e
      obtain ⟨p1, rfl, q1⟩ := Top.tupInts l ta e1
      obtain ⟨p2, rfl, q2⟩ := Top.tupInts l tb e2
      exact op_ltT (by omega) pins s σ H _ _ v u Q I rx ry ⟨_, _, _, _, rfl, rfl, q1, q2, fin rfl⟩
    · cases e
  · rename_i z; cases z
    exact ins (neg := false) e
  · rename_i z; cases z
    exact ins (neg := true) e
  · rename_i z; cases z; cases e
    exact op_isN pins s σ H _ _ v u Q I rx ry ⟨sn tb, by rw [sx ta]; exact fin rfl⟩
  · rename_i z; cases z; cases e
    exact op_notN pins s σ H _ _ v u Q I rx ry ⟨sn tb, by rw [sx ta]; exact fin rfl⟩
  · cases e
end
end MP

end
-- MPF
section
/-! MPF: binary operators. -/
namespace MP
open PySem L2 PySem.Spec PyProof.Rows
/-- list + list, whichever they are -/
def rCatL (K : PySem.W.Frag) : R2 := fun x y H Q => ∃ l b xs zs, x = .ref l ∧ y = .ref b ∧ SqL K H l xs ∧ SqL K H b zs ∧ xs.length + zs.length ≤ sizeLine ∧ ∀ p, H p = none → Q (.ref p) (upd H p (.lst (xs ++ zs)))
theorem op_catL {X : Cx} : OpR X (binaryOp .Add) (rCatL X.K) := by
  intro pins s σ H x y v u Q I rx ry h
  obtain ⟨l, b, xs, zs, rfl, rfl, hH, hB, hz, q⟩ := h
  cases rx
  cases ry
  obtain ⟨its, r, ⟨⟨cls, dd, data, sl⟩, n, ho, hc, hd0, hd⟩, _⟩ := I.list hH
  obtain ⟨its2, r2, ⟨⟨cls2, dd2, data2, sl2⟩, n2, ho2, hc2, hd02, hd2⟩, _⟩ := I.list hB
  simp only at hc hd hc2 hd2
  subst hc hd hc2 hd2
  have h1 := r.length
  have h2 := r2.length
  refine PySem.concat_meets ⟨_, ho, rfl⟩ ⟨_, ho2, rfl⟩ noFill_list_add seq_list_add PySem.F.slot_list_add PySem.F.entry_list_add (PySem.F.args_list_add_2 _ _) (list_addW l b its.toArray its2.toArray n n2 dd dd2 sl sl2 (by simp only [List.size_toArray]; omega)) ⟨ho, ho2, ?_⟩
  have ea : its.toArray ++ its2.toArray = (its ++ its2).toArray := by simp
  rw [ea]
  exact ⟨.ref _, _, I.lnew (t' := s.toks) (r.append r2) (by rw [List.length_append]; omega), rfl, q _ I.fresh⟩
theorem op_powW {X : Cx} : OpR X (binaryOp .Pow) (rI (fun i j => 0 ≤ j ∧ (Builtin.Int.intBits i : Int) * j ≤ 2 ^ 27) fun i j => .int (i ^ j.toNat)) := opI fun _ _ _ _ _ _ _ hc q => pow_int hc.1 hc.2 q
def mulB (i j : Int) : Bool := decide (i.natAbs < 18446744073709551616) || decide (j.natAbs < 18446744073709551616) || decide (i.natAbs.log2 + j.natAbs.log2 < 1000000)
def pBin : Operator → List D → Option Ou
  | .Add, [.int i, .int j] => some (.dat (.int (i + j)))
  | .Add, [.str i, .str j] => if i.length + j.length ≤ LIM then some (.dat (.str (i ++ j))) else none
  | .Add, [.tup xs, .tup ys] => if xs.length + ys.length ≤ LIM then some (.dat (.tup (xs ++ ys))) else none
  | .Add, [.lst xs, .lst ys] => if xs.length + ys.length ≤ LIM then some (.new (.lst (xs ++ ys))) else none
  | .Sub, [.int i, .int j] => some (.dat (.int (i - j)))
  | .Mult, [.int i, .int j] => if mulB i j = true then some (.dat (.int (i * j))) else none
  | .Mult, [.tup xs, .int k] => if xs ≠ [] ∧ 2 ≤ k ∧ k ≤ 1000 ∧ xs.length ≤ 1000 then some (.dat (.tup (List.replicate k.toNat xs).flatten)) else none
  | .FloorDiv, [.int i, .int j] => if 0 < j ∧ j.natAbs.log2 < 9000 then some (.dat (.int (i / j))) else none
  | .Mod, [.int i, .int j] => if 0 < j then some (.dat (.int (i % j))) else none
  | .Pow, [.int i, .int j] => if 0 ≤ j ∧ (Builtin.Int.intBits i : Int) * j ≤ 134217728 then some (.dat (.int (i ^ j.toNat))) else none
  | _, _ => none
section
variable {P : Program} {w : World} {K : PySem.W.Frag} {mg : Str → Option Value} {base : Heap} {k : Nat} {N : List Str} {sv : Sv} {X : Cx} {Wx : WX} {W H : Hp}
theorem Top.int {x : V} {i : Int} (h : Top K W H x (.int i)) : x = .int i := by
  cases h with
  | dat h => cases h; rfl
  | mt h => cases h
theorem Top.bl {x : V} {i : Bool} (h : Top K W H x (.bl i)) : x = .bl i := by
  cases h with
  | dat h => cases h; rfl
  | mt h => cases h
theorem Top.str {x : V} {i : Str} (h : Top K W H x (.str i)) : x = .str i := by
  cases h with
  | dat h => cases h; rfl
  | mt h => cases h
theorem Top.non {x : V} (h : Top K W H x .non) : x = .non := by
  cases h with
  | dat h => cases h; rfl
  | mt h => cases h
theorem Top.tup {x : V} {xs : List D} (h : Top K W H x (.tup xs)) : ∃ a vs, x = .ref a ∧ TupAt K W a vs ∧ DrA K W vs xs := by
  cases h with
  | dat h =>
    cases h with
    | tup h r => exact ⟨_, _, rfl, h, r⟩
  | mt h => cases h
theorem Top.lst {x : V} {xs : List D} (l : Le W H) (h : Top K W H x (.lst xs)) : ∃ a vs, x = .ref a ∧ SqL K H a vs ∧ DrA K W vs xs := by
  cases h with
  | dat h =>
    cases h with
    | lst h r => exact ⟨_, _, rfl, h.sq l, r⟩
  | mt h =>
    cases h with
    | lst h r => exact ⟨_, _, rfl, SqL.of h, r⟩
theorem DrA.flat_rep {vs : List V} {ds : List D} (h : DrA K W vs ds) : ∀ n, DrA K W (List.replicate n vs).flatten (List.replicate n ds).flatten
  | 0 => .nil
  | n + 1 => by
    rw [List.replicate_succ, List.replicate_succ, List.flatten_cons, List.flatten_cons]
    exact h.append (DrA.flat_rep h n)
theorem DrA.nil_iff {vs : List V} {ds : List D} (h : DrA K W vs ds) : vs = [] ↔ ds = [] := by
  cases h with
  | nil => simp
  | cons _ _ => simp
/-- a new tuple -/
theorem orel_tup {vs : List V} {ds : List D} (l : Le W H) (r : DrA K W vs ds) {p : Addr} (h : H p = none) : PSt W H (upd W p (.tup vs)) (upd H p (.tup vs)) ∧ ORel K H (upd W p (.tup vs)) (upd H p (.tup vs)) (.ref p) (.dat (.tup ds)) :=
  ⟨PSt.froz l h, .dat (.tup (.inl upd_same) (r.mono (Ex.new (l.no h))))⟩
/-- a new list -/
theorem orel_lst {vs : List V} {ds : List D} (l : Le W H) (r : DrA K W vs ds) {p : Addr} (h : H p = none) : PSt W H W (upd H p (.lst vs)) ∧ ORel K H W (upd H p (.lst vs)) (.ref p) (.new (.lst ds)) :=
  ⟨PSt.fresh l h, .new h (l.no h) (.lst upd_same r)⟩
theorem pBin_ok (hk : X.K = K) (o : Operator) : OpR X (binaryOp o) (fun x y => rP K (pBin o) [x, y]) := by
  subst hk
  intro pins s σ H x y v u Q I rx ry h
  obtain ⟨W, ds, ou, l, tp, e, k1⟩ := h
  cases tp with
  | @cons _ _ a _ ta tp =>
  cases tp with
  | @cons _ _ b _ tb tp =>
  cases tp
  have fi : ∀ {b}, ou = .dat (.int b) → Q (.int b) H := fun {b} e => by
    subst e
    exact k1 (.int b) W H (PSt.refl l) (.dat (.int b))
  have fs : ∀ {b}, ou = .dat (.str b) → Q (.str b) H := fun {b} e => by
    subst e
    exact k1 (.str b) W H (PSt.refl l) (.dat (.str b))
  unfold pBin at e
  split at e
  · rename_i z; cases z; cases e
    exact op_add pins s σ H _ _ v u Q I rx ry ⟨_, _, ta.int, tb.int, fi rfl⟩
  · rename_i z; cases z
    split at e
    · rename_i hl; cases e
      exact op_add_str pins s σ H _ _ v u Q I rx ry ⟨_, _, ta.str, tb.str, lim_le hl, fs rfl⟩
    · cases e
  · rename_i z; cases z
    split at e
    · rename_i hl; cases e
      obtain ⟨a1, v1, rfl, t1, r1⟩ := ta.tup
      obtain ⟨a2, v2, rfl, t2, r2⟩ := tb.tup
      have l1 := r1.length
      have l2 := r2.length
      refine op_catA pins s σ H _ _ v u Q I rx ry ⟨a1, a2, v1, v2, rfl, rfl, t1.sq l, t2.sq l, lim_le (by omega), fun z => ?_, fun _ z => ?_, fun _ _ p hp => ?_⟩
      · rw [r1.nil_iff] at z
        subst z
        exact k1 _ W H (PSt.refl l) (.dat (.tup t2 r2))
      · rw [r2.nil_iff] at z
        subst z
        exact k1 _ W H (PSt.refl l) (.dat (by rw [List.append_nil]; exact .tup t1 r1))
      · obtain ⟨q1, q2⟩ := orel_tup l (r1.append r2) hp
        exact k1 _ _ _ q1 q2
    · cases e
  · rename_i z; cases z
    split at e
    · rename_i hl; cases e
      obtain ⟨a1, v1, rfl, t1, r1⟩ := ta.lst l
      obtain ⟨a2, v2, rfl, t2, r2⟩ := tb.lst l
      have l1 := r1.length
      have l2 := r2.length
      refine op_catL pins s σ H _ _ v u Q I rx ry ⟨a1, a2, v1, v2, rfl, rfl, t1, t2, lim_le (by omega), fun p hp => ?_⟩
      obtain ⟨q1, q2⟩ := orel_lst l (r1.append r2) hp
      exact k1 _ _ _ q1 q2
    · cases e
  · rename_i z; cases z; cases e
    exact op_sub pins s σ H _ _ v u Q I rx ry ⟨_, _, ta.int, tb.int, fi rfl⟩
  · rename_i i j z; cases z
    split at e
    · rename_i hm; cases e
      simp only [mulB, Bool.or_eq_true, decide_eq_true_eq] at hm
      rcases hm with (hm | hm) | hm
      · exact op_mul pins s σ H _ _ v u Q I rx ry ⟨_, _, ta.int, tb.int, .inl (by omega), fi rfl⟩
      · exact op_mul pins s σ H _ _ v u Q I rx ry ⟨_, _, ta.int, tb.int, .inr (by omega), fi rfl⟩
      · exact op_mulW pins s σ H _ _ v u Q I rx ry ⟨_, _, ta.int, tb.int, hm, fi rfl⟩
    · cases e
  · rename_i z; cases z
    split at e
    · rename_i hm; cases e
      obtain ⟨h1, h2, h3, h4⟩ := hm
      obtain ⟨a1, v1, rfl, t1, r1⟩ := ta.tup
      have l1 := r1.length
      refine op_repT pins s σ H _ _ v u Q I rx ry ⟨_, _, v1, rfl, tb.int, t1.sq l, fun z => h1 (r1.nil_iff.mp z), h2, h3, by omega, fun p hp => ?_⟩
      obtain ⟨q1, q2⟩ := orel_tup l (r1.flat_rep _) hp
      exact k1 _ _ _ q1 q2
    · cases e
  · rename_i z; cases z
    split at e
    · rename_i hm; cases e
      exact op_fdivW pins s σ H _ _ v u Q I rx ry ⟨_, _, ta.int, tb.int, hm, fi rfl⟩
    · cases e
  · rename_i z; cases z
    split at e
    · rename_i hm; cases e
      exact op_mod pins s σ H _ _ v u Q I rx ry ⟨_, _, ta.int, tb.int, hm, fi rfl⟩
    · cases e
  · rename_i z; cases z
    split at e
    · rename_i hm; cases e
      exact op_powW pins s σ H _ _ v u Q I rx ry ⟨_, _, ta.int, tb.int, ⟨hm.1, by have := hm.2; omega⟩, fi rfl⟩
    · cases e
  · cases e
end
end MP

end
-- MPG
section
/-! MPG: calls of built-ins. -/
namespace MP
open PySem L2 PySem.Spec PyProof.Rows
/-! sorting -/
def insI (x : Int) : List Int → List Int
  | [] => [x]
  | y :: r => if x ≤ y then x :: y :: r else y :: insI x r
def isort : List Int → List Int
  | [] => []
  | x :: r => insI x (isort r)
theorem insI_perm (x : Int) : ∀ r, (insI x r).Perm (x :: r)
  | [] => .refl _
  | y :: r => by
    unfold insI
    split
    · exact .refl _
    · exact ((insI_perm x r).cons y).trans (.swap x y r)
theorem isort_perm : ∀ r, (isort r).Perm r
  | [] => .refl _
  | x :: r => (insI_perm x (isort r)).trans ((isort_perm r).cons x)
theorem insI_srt (x : Int) : ∀ r : List Int, r.Pairwise (· ≤ ·) → (insI x r).Pairwise (· ≤ ·)
  | [], _ => by simp [insI]
  | y :: r, h => by
    unfold insI
    rw [List.pairwise_cons] at h
    split
    · rename_i q
      refine List.pairwise_cons.mpr ⟨fun z hz => ?_, List.pairwise_cons.mpr h⟩
      rcases List.mem_cons.mp hz with e | e
      · omega
      · have := h.1 z e
        omega
    · rename_i q
      refine List.pairwise_cons.mpr ⟨fun z hz => ?_, insI_srt x r h.2⟩
      rcases List.mem_cons.mp ((insI_perm x r).mem_iff.mp hz) with e | e
      · omega
      · exact h.1 z e
theorem isort_srt : ∀ r : List Int, (isort r).Pairwise (· ≤ ·)
  | [] => .nil
  | x :: r => insI_srt x _ (isort_srt r)
theorem perm_uniq : ∀ {a b : List Int}, a.Perm b → a.Pairwise (· ≤ ·) → b.Pairwise (· ≤ ·) → a = b
  | [], b, p, _, _ => (List.nil_perm.mp p).symm
  | x :: a, [], p, _, _ => absurd p.length_eq (by simp)
  | x :: a, y :: b, p, ha, hb => by
    rw [List.pairwise_cons] at ha hb
    have h1 : x ≤ y := by
      rcases List.mem_cons.mp (p.mem_iff.mpr (List.mem_cons_self (a := y) (l := b))) with e | e
      · omega
      · exact ha.1 y e
    have h2 : y ≤ x := by
      rcases List.mem_cons.mp (p.mem_iff.mp (List.mem_cons_self (a := x) (l := a))) with e | e
      · omega
      · exact hb.1 x e
    have e : x = y := by omega
    subst e
    rw [perm_uniq p.cons_inv ha.2 hb.2]
theorem isort_uniq {a b : List Int} (p : a.Perm b) (h : a.Pairwise (· ≤ ·)) : a = isort b := perm_uniq (p.trans (isort_perm b).symm) h (isort_srt b)
def maxI : Int → List Int → Int
  | m, [] => m
  | m, y :: r => maxI (if m < y then y else m) r
def minI : Int → List Int → Int
  | m, [] => m
  | m, y :: r => minI (if y < m then y else m) r
theorem maxI_ok : ∀ (r : List Int) (m : Int), (maxI m r = m ∨ maxI m r ∈ r) ∧ m ≤ maxI m r ∧ ∀ y ∈ r, y ≤ maxI m r
  | [], m => ⟨.inl rfl, Int.le_refl _, nofun⟩
  | y :: r, m => by
    have h := maxI_ok r (if m < y then y else m)
    unfold maxI
    obtain ⟨h1, h2, h3⟩ := h
    refine ⟨?_, ?_, fun z hz => ?_⟩
    · rcases h1 with h1 | h1
      · by_cases q : m < y
        · rw [if_pos q] at h1 ⊢; exact .inr (by rw [h1]; exact List.mem_cons_self)
        · rw [if_neg q] at h1 ⊢; exact .inl h1
      · exact .inr (List.mem_cons_of_mem _ h1)
    · by_cases q : m < y
      · rw [if_pos q] at h2 ⊢; omega
      · rw [if_neg q] at h2 ⊢; exact h2
    · rcases List.mem_cons.mp hz with e | e
      · subst e
        by_cases q : m < z
        · rw [if_pos q] at h2 ⊢; exact h2
        · rw [if_neg q] at h2 ⊢; omega
      · exact h3 z e
theorem minI_ok : ∀ (r : List Int) (m : Int), (minI m r = m ∨ minI m r ∈ r) ∧ minI m r ≤ m ∧ ∀ y ∈ r, minI m r ≤ y
  | [], m => ⟨.inl rfl, Int.le_refl _, nofun⟩
  | y :: r, m => by
    have h := minI_ok r (if y < m then y else m)
    unfold minI
    obtain ⟨h1, h2, h3⟩ := h
    refine ⟨?_, ?_, fun z hz => ?_⟩
    · rcases h1 with h1 | h1
      · by_cases q : y < m
        · rw [if_pos q] at h1 ⊢; exact .inr (by rw [h1]; exact List.mem_cons_self)
        · rw [if_neg q] at h1 ⊢; exact .inl h1
      · exact .inr (List.mem_cons_of_mem _ h1)
    · by_cases q : y < m
      · rw [if_pos q] at h2 ⊢; omega
      · rw [if_neg q] at h2 ⊢; exact h2
    · rcases List.mem_cons.mp hz with e | e
      · subst e
        by_cases q : z < m
        · rw [if_pos q] at h2 ⊢; exact h2
        · rw [if_neg q] at h2 ⊢; omega
      · exact h3 z e
def bools? : List D → Option (List Bool)
  | [] => some []
  | .bl i :: r => (bools? r).map (i :: ·)
  | _ :: _ => none
theorem bools?_ok : ∀ {ds : List D} {ns : List Bool}, bools? ds = some ns → ds = ns.map D.bl
  | [], ns, h => by simp only [bools?] at h; cases h; rfl
  | d :: ds, ns, h => by
    cases d with
    | bl i =>
      simp only [bools?] at h
      cases q : bools? ds with
      | none => rw [q] at h; cases h
      | some ms => rw [q] at h; cases h; rw [bools?_ok q]; rfl
    | _ => simp [bools?] at h
theorem bools?_map : ∀ (ns : List Bool), bools? (ns.map D.bl) = some ns
  | [] => rfl
  | n :: ns => by simp [bools?, bools?_map ns]
/-! the functions -/
def pLen : List D → Option Ou
  | [.str x] => if x.length ≤ LIM then some (.dat (.int x.length)) else none
  | [.lst xs] => some (.dat (.int xs.length))
  | [.tup xs] => some (.dat (.int xs.length))
  | _ => none
def pAbs : List D → Option Ou
  | [.int i] => some (.dat (.int (if i < 0 then -i else i)))
  | _ => none
def pMax : List D → Option Ou
  | [.int i, .int j] => some (.dat (.int (if j > i then j else i)))
  | [.lst xs] => (match ints? xs with
    | some (m :: r) => some (.dat (.int (maxI m r)))
    | _ => none)
  | _ => none
def pMin : List D → Option Ou
  | [.int i, .int j] => some (.dat (.int (if j < i then j else i)))
  | [.lst xs] => (match ints? xs with
    | some (m :: r) => some (.dat (.int (minI m r)))
    | _ => none)
  | _ => none
def pSum : List D → Option Ou
  | [.lst xs] => (match ints? xs with
    | some ns => some (.dat (.int ns.sum))
    | _ => none)
  | _ => none
def pAll : List D → Option Ou
  | [.lst xs] => (match bools? xs with
    | some bs => some (.dat (.bl (bs.all id)))
    | _ => none)
  | _ => none
def pAny : List D → Option Ou
  | [.lst xs] => (match bools? xs with
    | some bs => some (.dat (.bl (bs.any id)))
    | _ => none)
  | _ => none
def pInt : List D → Option Ou
  | [.int i] => some (.dat (.int i))
  | [.bl b] => some (.dat (.int (if b then 1 else 0)))
  | _ => none
def pTup : List D → Option Ou
  | [.lst xs] => some (.dat (.tup xs))
  | [.tup xs] => some (.dat (.tup xs))
  | _ => none
def pLst : List D → Option Ou
  | [.lst xs] => some (.new (.lst xs))
  | [.tup xs] => some (.new (.lst xs))
  | _ => none
def pSrt : List D → Option Ou
  | [.lst xs] => (match ints? xs with
    | some ns => some (.new (.lst ((isort ns).map D.int)))
    | _ => none)
  | _ => none
def pSrtR : List D → Option Ou
  | [.lst xs] => (match ints? xs with
    | some ns => some (.new (.lst ((isort ns).reverse.map D.int)))
    | _ => none)
  | _ => none
def pShow (d : D) : Option Ou := match toPy d with
  | some p => if p.showable = true ∧ p.depth ≤ 64 ∧ p.shown.length ≤ LIM then some (.dat (.str p.shown)) else none
  | none => none
def pRepr : List D → Option Ou
  | [.non] => some (.dat (.str "None"))
  | [.bl b] => some (.dat (.str (if b then "True" else "False")))
  | [.int i] => if i.natAbs.log2 < 1920 then some (.dat (.str (toString i))) else none
  | [.str x] => if (reprText x).length ≤ LIM then some (.dat (.str (reprText x))) else none
  | [.tup xs] => pShow (.tup xs)
  | [.lst xs] => pShow (.lst xs)
  | _ => none
section
variable {X : Cx} {K : PySem.W.Frag} {W H : Hp}
theorem Top.ints {x : V} {xs : List D} {ns : List Int} (l : Le W H) (h : Top K W H x (.lst xs)) (e : ints? xs = some ns) : ∃ a, x = .ref a ∧ SqL K H a (ns.map V.int) := by
  obtain ⟨a, vs, rfl, s, r⟩ := h.lst l
  have := ints?_ok e
  subst this
  have := r.toInts
  subst this
  exact ⟨a, rfl, s⟩
theorem Top.bools {x : V} {xs : List D} {ns : List Bool} (l : Le W H) (h : Top K W H x (.lst xs)) (e : bools? xs = some ns) : ∃ a, x = .ref a ∧ SqL K H a (ns.map V.bl) := by
  obtain ⟨a, vs, rfl, s, r⟩ := h.lst l
  have := bools?_ok e
  subst this
  have := r.toBools
  subst this
  exact ⟨a, rfl, s⟩
theorem rP_int {f : List D → Option Ou} {Q : VK} {W H : Hp} {i : Int} (l : Le W H) (k : ∀ v W' H', PSt W H W' H' → ORel K H W' H' v (.dat (.int i)) → Q v H') : Q (.int i) H := k _ W H (PSt.refl l) (.dat (.int i))
theorem c_len (hk : X.K = K) : CallR X (.builtin "len") (rP K pLen) := by
  subst hk
  intro pins s σ H xs us Q I r h
  obtain ⟨W, ds, o, l, tp, e, k⟩ := h
  refine call_len pins s σ H xs us Q I r ?_
  unfold pLen at e
  split at e
  · cases tp with | cons t tp => cases tp; split at e; rotate_left; cases e
                                 rename_i hl; cases e; have := t.str; subst this
                                 exact ⟨_, _, rfl, ⟨lim_le hl, rfl⟩, k _ W H (PSt.refl l) (.dat (.int _))⟩
  · cases tp with | cons t tp => cases tp; cases e; obtain ⟨a, vs, rfl, q, r⟩ := t.lst l
                                 refine ⟨_, _, rfl, .inl ⟨_, q, rfl⟩, ?_⟩
                                 rw [r.length]
                                 exact k _ W H (PSt.refl l) (.dat (.int _))
  · cases tp with | cons t tp => cases tp; cases e; obtain ⟨a, vs, rfl, q, r⟩ := t.tup
                                 refine ⟨_, _, rfl, .inr ⟨_, q.sq l, rfl⟩, ?_⟩
                                 rw [r.length]
                                 exact k _ W H (PSt.refl l) (.dat (.int _))
  · cases e
theorem c_abs (hk : X.K = K) : CallR X (.builtin "abs") (rP K pAbs) := by
  subst hk
  intro pins s σ H xs us Q I r h
  obtain ⟨W, ds, o, l, tp, e, k⟩ := h
  refine call_abs pins s σ H xs us Q I r ?_
  unfold pAbs at e
  split at e
  · cases tp with | cons t tp => cases tp; cases e; have := t.int; subst this; exact ⟨_, rfl, k _ W H (PSt.refl l) (.dat (.int _))⟩
  · cases e
theorem c_int (hk : X.K = K) : CallR X (.type "int") (rP K pInt) := by
  subst hk
  intro pins s σ H xs us Q I r h
  obtain ⟨W, ds, o, l, tp, e, k⟩ := h
  refine call_int1 pins s σ H xs us Q I r ?_
  unfold pInt at e
  split at e
  · cases tp with | cons t tp => cases tp; cases e; have := t.int; subst this; exact .inl ⟨_, rfl, k _ W H (PSt.refl l) (.dat (.int _))⟩
  · cases tp with | cons t tp => cases tp; cases e; have := t.bl; subst this; exact .inr ⟨_, rfl, k _ W H (PSt.refl l) (.dat (.int _))⟩
  · cases e
theorem c_max (hk : X.K = K) (hc : X.calm = true) : CallR X (.builtin "max") (rP K pMax) := by
  subst hk
  intro pins s σ H xs us Q I r h
  obtain ⟨W, ds, o, l, tp, e, k⟩ := h
  unfold pMax at e
  split at e
  · refine call_max2 hc pins s σ H xs us Q I r ?_
    cases tp with | cons t tp => cases tp with | cons t2 tp => cases tp; cases e; have := t.int; have := t2.int; subst_vars; exact ⟨_, _, rfl, k _ W H (PSt.refl l) (.dat (.int _))⟩
  · split at e
    · rename_i m r2 ei
      cases e
      refine cr_max hc pins s σ H xs us Q I r ?_
      cases tp with | cons t tp => cases tp; obtain ⟨a, rfl, q⟩ := t.ints l ei
                                   refine ⟨a, _, rfl, q, by simp, fun M h1 h2 => ?_⟩
                                   have hm := maxI_ok r2 m
                                   have : M = maxI m r2 := by
                                     have g1 : maxI m r2 ≤ M := by
                                       rcases hm.1 with z | z
                                       · rw [z]; exact h2 m List.mem_cons_self
                                       · exact h2 _ (List.mem_cons_of_mem _ z)
                                     have g2 : M ≤ maxI m r2 := by
                                       rcases List.mem_cons.mp h1 with z | z
                                       · rw [z]; exact hm.2.1
                                       · exact hm.2.2 M z
                                     omega
                                   subst this
                                   exact k _ W H (PSt.refl l) (.dat (.int _))
    · cases e
  · cases e
theorem c_min (hk : X.K = K) (hc : X.calm = true) : CallR X (.builtin "min") (rP K pMin) := by
  subst hk
  intro pins s σ H xs us Q I r h
  obtain ⟨W, ds, o, l, tp, e, k⟩ := h
  unfold pMin at e
  split at e
  · refine call_min2 hc pins s σ H xs us Q I r ?_
    cases tp with | cons t tp => cases tp with | cons t2 tp => cases tp; cases e; have := t.int; have := t2.int; subst_vars; exact ⟨_, _, rfl, k _ W H (PSt.refl l) (.dat (.int _))⟩
  · split at e
    · rename_i m r2 ei
      cases e
      refine cr_min hc pins s σ H xs us Q I r ?_
      cases tp with | cons t tp => cases tp; obtain ⟨a, rfl, q⟩ := t.ints l ei
                                   refine ⟨a, _, rfl, q, by simp, fun M h1 h2 => ?_⟩
                                   have hm := minI_ok r2 m
                                   have : M = minI m r2 := by
                                     have g1 : M ≤ minI m r2 := by
                                       rcases hm.1 with z | z
                                       · rw [z]; exact h2 m List.mem_cons_self
                                       · exact h2 _ (List.mem_cons_of_mem _ z)
                                     have g2 : minI m r2 ≤ M := by
                                       rcases List.mem_cons.mp h1 with z | z
                                       · rw [z]; exact hm.2.1
                                       · exact hm.2.2 M z
                                     omega
                                   subst this
                                   exact k _ W H (PSt.refl l) (.dat (.int _))
    · cases e
  · cases e
theorem c_sum (hk : X.K = K) (hc : X.calm = true) : CallR X (.builtin "sum") (rP K pSum) := by
  subst hk
  intro pins s σ H xs us Q I r h
  obtain ⟨W, ds, o, l, tp, e, k⟩ := h
  unfold pSum at e
  split at e
  · split at e
    · rename_i ns ei
      cases e
      refine cr_sum hc pins s σ H xs us Q I r ?_
      cases tp with | cons t tp => cases tp; obtain ⟨a, rfl, q⟩ := t.ints l ei; exact ⟨a, _, rfl, q, k _ W H (PSt.refl l) (.dat (.int _))⟩
    · cases e
  · cases e
theorem c_all (hk : X.K = K) (hc : X.calm = true) : CallR X (.builtin "all") (rP K pAll) := by
  subst hk
  intro pins s σ H xs us Q I r h
  obtain ⟨W, ds, o, l, tp, e, k⟩ := h
  unfold pAll at e
  split at e
  · split at e
    · rename_i ns ei
      cases e
      refine cr_all hc pins s σ H xs us Q I r ?_
      cases tp with | cons t tp => cases tp; obtain ⟨a, rfl, q⟩ := t.bools l ei; exact ⟨a, _, rfl, q, k _ W H (PSt.refl l) (.dat (.bl _))⟩
    · cases e
  · cases e
theorem c_any (hk : X.K = K) (hc : X.calm = true) : CallR X (.builtin "any") (rP K pAny) := by
  subst hk
  intro pins s σ H xs us Q I r h
  obtain ⟨W, ds, o, l, tp, e, k⟩ := h
  unfold pAny at e
  split at e
  · split at e
    · rename_i ns ei
      cases e
      refine cr_any hc pins s σ H xs us Q I r ?_
      cases tp with | cons t tp => cases tp; obtain ⟨a, rfl, q⟩ := t.bools l ei; exact ⟨a, _, rfl, q, k _ W H (PSt.refl l) (.dat (.bl _))⟩
    · cases e
  · cases e
theorem c_tup (hk : X.K = K) : CallR X (.type "tuple") (rP K pTup) := by
  subst hk
  intro pins s σ H xs us Q I r h
  obtain ⟨W, ds, o, l, tp, e, k⟩ := h
  refine call_tuple_of pins s σ H xs us Q I r ?_
  unfold pTup at e
  split at e
  · cases e
    cases tp with | cons t tp => cases tp; obtain ⟨a, vs, rfl, q, r⟩ := t.lst l
                                 refine ⟨a, vs, rfl, .inl ⟨q, fun p hp => ?_⟩⟩
                                 obtain ⟨q1, q2⟩ := orel_tup l r hp
                                 exact k _ _ _ q1 q2
  · cases e
    cases tp with | cons t tp => cases tp; obtain ⟨a, vs, rfl, q, r⟩ := t.tup
                                 exact ⟨a, vs, rfl, .inr ⟨q.sq l, k _ W H (PSt.refl l) (.dat (.tup q r))⟩⟩
  · cases e
theorem c_lst (hk : X.K = K) : CallR X (.type "list") (rP K pLst) := by
  subst hk
  intro pins s σ H xs us Q I r h
  obtain ⟨W, ds, o, l, tp, e, k⟩ := h
  refine call_list_of pins s σ H xs us Q I r ?_
  unfold pLst at e
  split at e
  · cases e
    cases tp with | cons t tp => cases tp; obtain ⟨a, vs, rfl, q, r⟩ := t.lst l
                                 refine ⟨a, vs, rfl, .inl q, fun p hp => ?_⟩
                                 obtain ⟨q1, q2⟩ := orel_lst l r hp
                                 exact k _ _ _ q1 q2
  · cases e
    cases tp with | cons t tp => cases tp; obtain ⟨a, vs, rfl, q, r⟩ := t.tup
                                 refine ⟨a, vs, rfl, .inr (q.sq l), fun p hp => ?_⟩
                                 obtain ⟨q1, q2⟩ := orel_lst l r hp
                                 exact k _ _ _ q1 q2
  · cases e
theorem c_srt (hk : X.K = K) : CallR X (.builtin "sorted") (rP K pSrt) := by
  subst hk
  intro pins s σ H xs us Q I r h
  obtain ⟨W, ds, o, l, tp, e, k⟩ := h
  unfold pSrt at e
  split at e
  · split at e
    · rename_i ns ei
      cases e
      refine cr_sortedI pins s σ H xs us Q I r ?_
      cases tp with | cons t tp => cases tp; obtain ⟨a, rfl, q⟩ := t.ints l ei
                                   refine ⟨a, _, rfl, q, fun ns' p h1 h2 hp => ?_⟩
                                   have := isort_uniq h1 h2
                                   subst this
                                   obtain ⟨q1, q2⟩ := orel_lst (K := X.K) l (DrA.ints (ns := isort ns)) hp
                                   exact k _ _ _ q1 q2
    · cases e
  · cases e
theorem c_srtR (hk : X.K = K) : CallRK X (.builtin "sorted") [Str.ofString "reverse"] (fun xs zs H Q => zs = [.bl true] ∧ rP K pSrtR xs H Q) := by
  subst hk
  intro pins s σ H xs zs us ws Q I r rz h
  obtain ⟨rfl, W, ds, o, l, tp, e, k⟩ := h
  unfold pSrtR at e
  split at e
  · split at e
    · rename_i ns ei
      cases e
      refine cr_sortedRev (b := true) pins s σ H xs _ us ws Q I r rz ?_
      cases tp with | cons t tp => cases tp; obtain ⟨a, rfl, q⟩ := t.ints l ei
                                   refine ⟨a, _, rfl, rfl, q, fun ns' p h1 h2 hp => ?_⟩
                                   have h3 : ns'.Pairwise (· ≥ ·) := h2
                                   have h4 : ns'.reverse.Pairwise (· ≤ ·) := List.pairwise_reverse.mpr h3
                                   have h5 := isort_uniq ((List.reverse_perm _).trans h1) h4
                                   have h6 : ns' = (isort ns).reverse := by rw [← h5, List.reverse_reverse]
                                   subst h6
                                   obtain ⟨q1, q2⟩ := orel_lst (K := X.K) l (DrA.ints (ns := (isort ns).reverse)) hp
                                   exact k _ _ _ q1 q2
    · cases e
  · cases e
mutual
theorem noDict_py : ∀ (d : D) (p : PyData), toPy d = some p → p.hasDict = false
  | .non, p, h => by simp only [toPy] at h; cases h; rfl
  | .bl _, p, h => by simp only [toPy] at h; cases h; rfl
  | .int _, p, h => by simp only [toPy] at h; cases h; rfl
  | .str _, p, h => by simp only [toPy] at h; cases h; rfl
  | .tup xs, p, h => by
    simp only [toPy] at h
    cases q : toPyA xs with
    | none => rw [q] at h; cases h
    | some ps => rw [q] at h; cases h; simpa [PyData.hasDict] using noDict_pyA xs ps q
  | .lst xs, p, h => by
    simp only [toPy] at h
    cases q : toPyA xs with
    | none => rw [q] at h; cases h
    | some ps => rw [q] at h; cases h; simpa [PyData.hasDict] using noDict_pyA xs ps q
  | .dct _ _, p, h => by simp [toPy] at h
  | .obj _ _ _, p, h => by simp [toPy] at h
theorem noDict_pyA : ∀ (ds : List D) (ps : List PyData), toPyA ds = some ps → PyData.hasDictAll ps = false
  | [], ps, h => by simp only [toPyA] at h; cases h; rfl
  | d :: ds, ps, h => by
    unfold toPyA at h
    cases q : toPy d with
    | none => rw [q] at h; cases h
    | some p =>
      cases q2 : toPyA ds with
      | none => rw [q, q2] at h; cases h
      | some r =>
        rw [q, q2] at h
        cases h
        simp [PyData.hasDictAll, noDict_py d p q, noDict_pyA ds r q2]
end
theorem show_ok {pins : List (Addr × Obj)} {σ : L2.St} {H W : Hp} {s : Shared} {x : V} {d : D} {o : Ou} {us : List Value} {Q : VK} (I : Inv X pins σ H s) (hgd : X.A.guards = some []) (hu : X.A.units + 66 < cLine) (l : Le W H) (t : Top X.K W H x d) (rx : ∃ a, x = .ref a) (r : Vals [x] us) (e : pShow d = some o) (k : ∀ v W' H', PSt W H W' H' → ORel X.K H W' H' v o → Q v H') :
    wpAny (model X.prog X.w) X.A (call (.builtin "repr") us) (EP X pins σ Q) X.xe s := by
  obtain ⟨a, rfl⟩ := rx
  obtain ⟨u, rfl, ru⟩ := vals1 r
  cases ru
  unfold pShow at e
  split at e
  · rename_i p hp
    split at e
    · rename_i hc
      cases e
      obtain ⟨as, rd⟩ := Dp.reads I p _ _ (t.dp l hp) rfl
      refine repr_of_reads' rd hc.1 (PyData.noDict_hsm (noDict_py d p hp)) hgd (by omega) (fun _ _ e => e) (fun h' u tk hk => ?_) (lim_le hc.2.2)
      exact ⟨.str p.shown, H, I.kept hk, ⟨_, rfl⟩, k _ W H (PSt.refl l) (.dat (.str _))⟩
    · cases e
  · cases e
theorem c_repr (hk : X.K = K) (hgd : X.A.guards = some []) (hu : X.A.units + 66 < cLine) : CallR X (.builtin "repr") (rP K pRepr) := by
  subst hk
  intro pins s σ H xs us Q I r h
  obtain ⟨W, ds, o, l, tp, e, k⟩ := h
  unfold pRepr at e
  split at e
  · cases tp with | cons t tp => cases tp; cases e; have := t.non; subst this
                                 obtain ⟨u, rfl, rx⟩ := vals1 r
                                 cases rx
                                 exact PySem.P.repr_of_none ⟨.str _, H, I.tok _, ⟨_, rfl⟩, k _ W H (PSt.refl l) (.dat (.str _))⟩
  · cases tp with | cons t tp => cases tp; cases e; have := t.bl; subst this
                                 obtain ⟨u, rfl, rx⟩ := vals1 r
                                 cases rx
                                 exact PySem.P.repr_of_bool ⟨.str _, H, I.tok _, ⟨_, rfl⟩, k _ W H (PSt.refl l) (.dat (.str _))⟩
  · split at e
    · rename_i hz
      cases tp with | cons t tp => cases tp; cases e; have := t.int; subst this
                                   obtain ⟨u, rfl, tt, rfl⟩ := vals1 r
                                   exact PySem.P.repr_of_int hz ⟨.str _, H, I.tok _, ⟨_, rfl⟩, k _ W H (PSt.refl l) (.dat (.str _))⟩
    · cases e
  · split at e
    · rename_i hz
      cases tp with | cons t tp =>
      cases tp
      cases e
      have := t.str
      subst this
      obtain ⟨u, rfl, tt, rfl⟩ := vals1 r
      exact PySem.P.repr_of_str ⟨.str _, H, I.tok _, ⟨_, rfl⟩, k _ W H (PSt.refl l) (.dat (.str _))⟩ (lim_le hz)
    · cases e
  · cases tp with | cons t tp =>
    cases tp
    exact show_ok I hgd hu l t (let ⟨a, _, h, _⟩ := t.tup; ⟨a, h⟩) r e k
  · cases tp with | cons t tp =>
    cases tp
    exact show_ok I hgd hu l t (let ⟨a, _, h, _⟩ := t.lst l; ⟨a, h⟩) r e k
  · cases e
end
end MP

end
-- MPH
section
/-! MPH: what loops and comprehensions walk. -/
namespace MP
open PySem L2 PySem.Spec PyProof.Rows
/-- what is walked stays as it is while the changeable things change -/
def StA (K : PySem.W.Frag) (W H1 : Hp) (M : Addr → Prop) (vs : List V) (ds : List D) : Prop :=
  ∀ H, Frm W H1 M H → Le W H ∧ TopA K W H vs ds
theorem locks_mem : ∀ {Γ : List Slot} {ls : List Vl} {i : Nat}, Vl.ref i ∈ ls → (∃ b d, Γ[i]? = some (.mt b d)) → i ∈ locks Γ ls
  | Γ, [], i, h, _ => by cases h
  | Γ, l :: ls, i, h, ⟨b, d, e⟩ => by
    rcases List.mem_cons.mp h with z | z
    · subst z
      simp only [locks, e]
      exact List.mem_cons_self
    · have ih := locks_mem (Γ := Γ) z ⟨b, d, e⟩
      cases l with
      | ref j =>
        simp only [locks]
        split
        · exact List.mem_cons_of_mem _ ih
        · exact ih
      | dat _ => exact ih
      | new _ => exact ih
section
variable {K : PySem.W.Frag} {Wx : WX} {σ : L2.St} {H : Hp} {c0 c : Cf}
theorem muL_mt {ls : List Vl} {a : Addr} (h : muL c ls a) : ∃ i b d, c.Γ[i]? = some (.mt b d) ∧ c.σ[i]? = some (some (.ref a)) ∧ i ∉ locks c.Γ ls := by
  obtain ⟨i, b, d, g, e⟩ := h
  rcases lockA_get g with ⟨z, n⟩ | ⟨b', d', m, z, w⟩
  · exact ⟨i, b, d, z, e, fun hm => n hm b d rfl⟩
  · cases w
theorem stay_all {ls0 : List Vl} (R : Rel K c) {H : Hp} (fr : ∀ a o, c.H a = some o → ¬ muL c ls0 a → (c.W a = none ∨ lkb o = false) → H a = some o) : ∀ {vs : List V} {ls : List Vl} {ds : List D}, (∀ l ∈ ls, l ∈ ls0) → VRelA K c0 c vs ls → resA c.Γ ls = some ds → TopA K c.W H vs ds
  | _, _, _, _, .nil, e => by cases e; exact .nil
  | v0 :: vs0, l :: ls, ds0, hm, .cons h r _, e => by
    unfold resA at e
    cases e1 : res c.Γ l with
    | none => rw [e1] at e; cases e
    | some d =>
      cases e2 : resA c.Γ ls with
      | none => rw [e1, e2] at e; cases e
      | some ds =>
        rw [e1, e2] at e
        cases e
        refine .cons ?_ (stay_all R fr (fun l hl => hm l (List.mem_cons_of_mem _ hl)) r e2)
        cases h with
        | dat q => cases e1; exact .dat q
        | @new a d0 h0 hw ha q =>
          cases e1
          refine .mt (q.mono (Ex.refl _) fun o ho => fr a o ho (fun m => ?_) (.inl hw))
          obtain ⟨i, b, d, g, e, _⟩ := muL_mt m
          exact ha ⟨i, ⟨b, d, .inl g⟩, e⟩
        | @ref v i q =>
          have ml := hm (.ref i) List.mem_cons_self
          simp only [res] at e1
          have key : ∀ b d0, (c.Γ[i]? = some (.mt b d0) ∨ c.Γ[i]? = some (.lck b d0)) → ∃ a, v0 = .ref a ∧ MutAt K c.W H a d0 := fun b d0 g => by
            obtain ⟨a, e1, e2, e3, e4⟩ := R.am i b d0 g
            rw [q] at e1
            cases e1
            refine ⟨a, rfl, e3.mono (Ex.refl _) fun o ho => fr a o ho (fun m => ?_) (.inl e2)⟩
            obtain ⟨j, b', d', g', e', n'⟩ := muL_mt m
            have ji : i = j := R.dist i j a ⟨b, d0, g⟩ ⟨b', d', .inl g'⟩ q e'
            subst ji
            exact n' (locks_mem ml ⟨b', d', g'⟩)
          cases g : c.Γ[i]? with
          | none => rw [g] at e1; cases e1
          | some s =>
            rw [g] at e1
            cases s with
            | no => cases e1
            | dat d' =>
              cases e1
              obtain ⟨v', z1, z2⟩ := R.dat _ _ g
              rw [q] at z1
              cases z1
              exact .dat z2
            | mt b d' =>
              obtain ⟨a, rfl, m⟩ := key b d' (.inl g)
              cases e1
              exact .mt m
            | lck b d' =>
              obtain ⟨a, rfl, m⟩ := key b d' (.inr g)
              cases e1
              exact .mt m
theorem denI_A {g : List D → Option (List D)} {as : Ta} {R : It → Hp → Prop} (h : denI K Wx g as σ H R) :
    denA K Wx as σ H fun vs H1 => ∃ W M ds xs, Le W H1 ∧ StA K W H1 M vs ds ∧ g ds = some xs ∧ ∀ J W2 H2, PSl W H1 W2 H2 → ItOk K W2 H2 M J xs → R J H2 := by
  obtain ⟨E, W, Γ, Rl, h⟩ := h
  refine ⟨E, W, Γ, Rl, h.imp fun ls c1 R1 S1 e1 h1 vs V1 => ?_⟩
  obtain ⟨ds, xs, er, eg, k⟩ := h1
  refine ⟨c1.W, muL c1 ls, ds, xs, R1.le, fun H' fr => ?_, eg, fun J W2 H2 p q => k J W2 H2 p q⟩
  exact ⟨fr.1, stay_all R1 fr.2 (fun l h => h) V1 er⟩
/-! lists, tuples, texts -/
def strD (x : Str) : List D := x.cps.toList.map fun c => .str ⟨#[c]⟩
def gSeq : List D → Option (List D)
  | [.lst xs] => some xs
  | [.tup xs] => some xs
  | [.str x] => some (strD x)
  | _ => none
theorem itOk_list {W H1 : Hp} {M : Addr → Prop} {a : Addr} {xs : List D} (s : ∀ H, Frm W H1 M H → Le W H ∧ ∃ vs, SqL K H a vs ∧ DrA K W vs xs) : ItOk K W H1 M (Itl K a) xs where
  go := fun i H hi fr => by
    obtain ⟨_, vs, q, r⟩ := s H fr
    have : i < vs.length := by rw [r.length]; exact hi
    exact ⟨vs, vs[i], q, List.getElem?_eq_getElem this⟩
  yl := fun i H x H' d Wc hd fr y ex l => by
    obtain ⟨_, vs, q, r⟩ := s H fr
    obtain ⟨rfl, y⟩ := y
    obtain ⟨v, e1, e2⟩ := r.get hd
    have e3 := y vs q
    rw [e1] at e3
    cases e3
    exact ⟨Wc, PSt.refl l, e2.mono ex⟩
  stop := fun H fr => by
    obtain ⟨_, vs, q, r⟩ := s H fr
    exact ⟨vs, q, by rw [r.length]; exact Nat.le_refl _⟩
theorem itOk_tup {W H1 : Hp} {M : Addr → Prop} {a : Addr} {xs : List D} (s : ∀ H, Frm W H1 M H → Le W H ∧ ∃ vs, SqT K H a vs ∧ DrA K W vs xs) : ItOk K W H1 M (Itt K a) xs where
  go := fun i H hi fr => by
    obtain ⟨_, vs, q, r⟩ := s H fr
    have : i < vs.length := by rw [r.length]; exact hi
    exact ⟨vs, vs[i], q, List.getElem?_eq_getElem this⟩
  yl := fun i H x H' d Wc hd fr y ex l => by
    obtain ⟨_, vs, q, r⟩ := s H fr
    obtain ⟨rfl, y⟩ := y
    obtain ⟨v, e1, e2⟩ := r.get hd
    have e3 := y vs q
    rw [e1] at e3
    cases e3
    exact ⟨Wc, PSt.refl l, e2.mono ex⟩
  stop := fun H fr => by
    obtain ⟨_, vs, q, r⟩ := s H fr
    exact ⟨vs, q, by rw [r.length]; exact Nat.le_refl _⟩
theorem itOk_str {W2 H2 : Hp} {M : Addr → Prop} {x : Str} : ItOk K W2 H2 M (Its x) (strD x) where
  go := fun i H hi fr => by simpa [strD, Its] using hi
  yl := fun i H v H' d Wc hd fr y ex l => by
    obtain ⟨rfl, c, hc, rfl⟩ := y
    refine ⟨Wc, PSt.refl l, ?_⟩
    have : d = .str ⟨#[c]⟩ := by
      simp only [strD, List.getElem?_map] at hd
      cases q : x.cps.toList[i]? with
      | none => rw [q] at hd; cases hd
      | some c' =>
        rw [q] at hd
        cases hd
        have q' : x.cps[i]? = some c' := by simpa using q
        rw [hc] at q'
        cases q'
        rfl
    subst this
    exact .str _
  stop := fun H fr => by simp [strD, Its]
theorem itOk_rng {W2 H2 : Hp} {M : Addr → Prop} {lo : Int} {n : Nat} : ItOk K W2 H2 M (Itr lo n) ((List.range n).map fun i => D.int (lo + (i : Nat))) where
  go := fun i H hi fr => by simpa [Itr] using hi
  yl := fun i H v H' d Wc hd fr y ex l => by
    obtain ⟨rfl, rfl⟩ := y
    refine ⟨Wc, PSt.refl l, ?_⟩
    have hi := (List.getElem?_eq_some_iff.mp hd).1
    simp at hi
    rw [List.getElem?_map, List.getElem?_range hi] at hd
    cases hd
    exact .int _
  stop := fun H fr => by simp [Itr]
theorem itOk_enum {W H1 : Hp} {M : Addr → Prop} {a : Addr} {xs : List D} (s : ∀ H, Frm W H1 M H → Le W H ∧ ∃ vs, SqL K H a vs ∧ DrA K W vs xs) : ItOk K W H1 M (Ite K a) (xs.mapIdx fun i d => .tup [.int (i : Nat), d]) where
  go := fun i H hi fr => by
    obtain ⟨_, vs, q, r⟩ := s H fr
    have : i < vs.length := by rw [r.length]; simpa using hi
    exact ⟨vs, vs[i], q, List.getElem?_eq_getElem this⟩
  yl := fun i H x H' d Wc hd fr y ex l => by
    obtain ⟨_, vs, q, r⟩ := s H fr
    obtain ⟨T, z, rfl, hT, rfl, y⟩ := y
    rw [List.getElem?_mapIdx] at hd
    cases q2 : xs[i]? with
    | none => rw [q2] at hd; cases hd
    | some d0 =>
      rw [q2] at hd
      cases hd
      obtain ⟨v, e1, e2⟩ := r.get q2
      have e3 := y vs q
      rw [e1] at e3
      cases e3
      have e4 : Dr K Wc z d0 := e2.mono ex
      exact ⟨upd Wc T (.tup [.int (i : Nat), z]), PSt.froz l hT, .tup (.inl upd_same) (.cons (.int _) (.cons (e4.mono (Ex.new (l.no hT))) .nil))⟩
  stop := fun H fr => by
    obtain ⟨_, vs, q, r⟩ := s H fr
    exact ⟨vs, q, by rw [r.length]; simp⟩
def rngD (lo hi : Int) : List D := (List.range (hi - lo).toNat).map fun i => D.int (lo + (i : Nat))
def R62 : Int := 4611686018427387904
def gRng1 : List D → Option (List D)
  | [.int j] => if -R62 ≤ j ∧ j < R62 then some (rngD 0 j) else none
  | _ => none
def gRng2 : List D → Option (List D)
  | [.int i, .int j] => if -R62 ≤ i ∧ i < R62 ∧ -R62 ≤ j ∧ j < R62 then some (rngD i j) else none
  | _ => none
def gEnum : List D → Option (List D)
  | [.lst xs] => some (xs.mapIdx fun i d => .tup [.int (i : Nat), d])
  | _ => none
end
section
variable {P : Program} {w : World} {K : PySem.W.Frag} {mg : Str → Option Value} {base : Heap} {k : Nat} {N : List Str} {sv : Sv} {X : Cx} {Wx : WX}
theorem sta_one {W H1 : Hp} {M : Addr → Prop} {v : V} {d : D} (s : StA K W H1 M [v] [d]) : ∀ H, Frm W H1 M H → Le W H ∧ Top K W H v d := fun H fr => by
  obtain ⟨l, t⟩ := s H fr
  cases t with
  | cons t r => exact ⟨l, t⟩
theorem sta_self {W H1 : Hp} {M : Addr → Prop} {vs : List V} {ds : List D} (l : Le W H1) (s : StA K W H1 M vs ds) : TopA K W H1 vs ds := (s H1 ⟨l, fun _ _ e _ _ => e⟩).2
theorem sta_list {W H1 : Hp} {M : Addr → Prop} {a : Addr} {xs : List D} (s : StA K W H1 M [.ref a] [.lst xs]) : ∀ H, Frm W H1 M H → Le W H ∧ ∃ vs, SqL K H a vs ∧ DrA K W vs xs := fun H fr => by
  obtain ⟨l, t⟩ := sta_one s H fr
  obtain ⟨a', vs, e, q, r⟩ := t.lst l
  cases e
  exact ⟨l, vs, q, r⟩
theorem sta_tup {W H1 : Hp} {M : Addr → Prop} {a : Addr} {xs : List D} (s : StA K W H1 M [.ref a] [.tup xs]) : ∀ H, Frm W H1 M H → Le W H ∧ ∃ vs, SqT K H a vs ∧ DrA K W vs xs := fun H fr => by
  obtain ⟨l, t⟩ := sta_one s H fr
  obtain ⟨a', vs, e, q, r⟩ := t.tup
  cases e
  exact ⟨l, vs, q.sq l, r⟩
theorem pi_seq (hk : X.K = K) {tg e : Expr} {t : Tm} (he : PE X e (den K Wx t)) : PI X tg e (denI K Wx gSeq (.cons t .nil)) := by
  subst hk
  refine ⟨fun pins s σ H R I h => ?_⟩
  have h1 := den_mono (denA_cons (denI_A h)) fun v H' z => denA_nil z
  refine thn (he.run pins s σ H _ I h1) fun v s1 ⟨x, H1, I1, r1, q1⟩ => ?_
  obtain ⟨W, M, ds, xs, l, st, eg, kk⟩ := q1
  unfold gSeq at eg
  split at eg
  · cases eg
    have tp := sta_self l st
    cases tp with | cons tp _ =>
    obtain ⟨a, vs, rfl, q, r⟩ := tp.lst l
    cases r1
    obtain ⟨its, rv, p, hz⟩ := I1.list q
    refine wpAny_pyIter_list p.isList ?_
    exact pi_one (tk := s1.toks) I1 _ (turn_list a _) ⟨_, Heap.get?_push_size _ rfl, rfl, rfl⟩ (kk _ W H1 (PSt.refl l).sl (itOk_list (sta_list st)))
  · cases eg
    have tp := sta_self l st
    cases tp with | cons tp _ =>
    obtain ⟨a, vs, rfl, q, r⟩ := tp.tup
    cases r1
    obtain ⟨its, rv, p, hz⟩ := I1.tuple (q.sq l)
    refine wpAny_pyIter_tuple (show s1.heap.IsTuple a its.toArray from p) ?_
    exact pi_one (tk := s1.toks) I1 _ (turn_tuple a _) ⟨_, Heap.get?_push_size _ rfl, rfl, rfl⟩ (kk _ W H1 (PSt.refl l).sl (itOk_tup (sta_tup st)))
  · rename_i x1
    cases eg
    have tp := sta_self l st
    cases tp with | cons tp _ =>
    have := tp.str
    subst this
    obtain ⟨t', rfl⟩ := r1
    have q := kk (Its x1) W H1 (PSt.refl l).sl itOk_str
    cases ha : x1.cps.all (· < 128)
    · exact wpAny_pyIter_wide ha (pi_one (tk := s1.toks) I1 _ (turn_str _ x1 t' "str_iterator" (.inr rfl)) ⟨_, Heap.get?_push_size _ rfl, rfl, rfl⟩ q)
    · exact wpAny_pyIter_ascii ha (pi_one (tk := s1.toks) I1 _ (turn_str _ x1 t' "str_ascii_iterator" (.inl rfl)) ⟨_, Heap.get?_push_size _ rfl, rfl, rfl⟩ q)
  · cases eg
theorem PI.imp {tg e : Expr} {t t' : TI} (h : PI X tg e t) (i : ∀ σ H R, t' σ H R → t σ H R) : PI X tg e t' := ⟨fun pins s σ H R I w => h.run pins s σ H R I (i σ H R w)⟩
theorem denA_mono {as : Ta} {σ : L2.St} {H : Hp} {Q Q' : List V → Hp → Prop} (h : denA K Wx as σ H Q) (i : ∀ v H', Q v H' → Q' v H') : denA K Wx as σ H Q' := by
  obtain ⟨E, W, Γ, R, h⟩ := h
  exact ⟨E, W, Γ, R, h.imp fun l c' R' S' e' z v V => i _ _ (z v V)⟩
theorem pi_rng1 {tg a : Expr} {as : Ta} {p pos : Pos} (hg : Gl X "range") (hm : X.mg "range" = none) (hs : notStar a = true) (ha : PEs X K Wx [a] as) : PI X tg (.Call (.Name "range" p) [a] [] pos) (denI K Wx gRng1 as) := by
  refine PI.imp (pi_range1 hg hm (ha.pa (by simp [hs])) (by rw [star_cons hs]; rfl)) fun σ H R h => denA_mono (denI_A h) fun vs H1 z => ?_
  obtain ⟨W, M, ds, xs, l, st, eg, kk⟩ := z
  have tp := sta_self l st
  unfold gRng1 at eg
  split at eg
  · split at eg
    · rename_i j hj
      cases eg
      cases tp with | cons tp t2 =>
      cases t2
      have := tp.int
      subst this
      refine ⟨j, rfl, by simp only [R62] at hj; omega, by simp only [R62] at hj; omega, kk _ W H1 (PSt.refl l).sl ?_⟩
      have z := itOk_rng (K := K) (W2 := W) (H2 := H1) (M := M) (lo := 0) (n := j.toNat)
      simpa [rngD] using z
    · cases eg
  · cases eg
theorem pi_rng2 {tg a b : Expr} {as : Ta} {p pos : Pos} (hg : Gl X "range") (hm : X.mg "range" = none) (hs : notStar a = true) (hs2 : notStar b = true) (ha : PEs X K Wx [a, b] as) : PI X tg (.Call (.Name "range" p) [a, b] [] pos) (denI K Wx gRng2 as) := by
  refine PI.imp (pi_range2 hg hm (ha.pa (by simp [hs, hs2])) (by rw [star_cons hs, star_cons hs2]; rfl) (by rw [star_cons hs2]; rfl)) fun σ H R h => denA_mono (denI_A h) fun vs H1 z => ?_
  obtain ⟨W, M, ds, xs, l, st, eg, kk⟩ := z
  have tp := sta_self l st
  unfold gRng2 at eg
  split at eg
  · split at eg
    · rename_i i j hj
      cases eg
      cases tp with | cons tp t2 =>
      cases t2 with | cons t2 t3 =>
      cases t3
      have := tp.int
      subst this
      have := t2.int
      subst this
      refine ⟨i, j, rfl, by simp only [R62] at hj; omega, kk _ W H1 (PSt.refl l).sl ?_⟩
      exact itOk_rng
    · cases eg
  · cases eg
theorem pi_enm (hk : X.K = K) {elts : List Expr} {kq : Nat} {tpos : Pos} {a : Expr} {as : Ta} {p pos : Pos} (hg : Gl X "enumerate") (hm : X.mg "enumerate" = none) (hs : notStar a = true) (ha : PEs X K Wx [a] as) : PI X (.Tuple elts kq tpos) (.Call (.Name "enumerate" p) [a] [] pos) (denI K Wx gEnum as) := by
  subst hk
  refine PI.imp (pi_enum hg hm (ha.pa (by simp [hs])) (by rw [star_cons hs]; rfl)) fun σ H R h => denA_mono (denI_A h) fun vs H1 z => ?_
  obtain ⟨W, M, ds, xs, l, st, eg, kk⟩ := z
  have tp := sta_self l st
  unfold gEnum at eg
  split at eg
  · cases eg
    cases tp with | cons tp t2 =>
    cases t2
    obtain ⟨a, vs, rfl, q, r⟩ := tp.lst l
    exact ⟨a, vs, rfl, q, kk _ W H1 (PSt.refl l).sl (itOk_enum (sta_list st))⟩
  · cases eg
end
end MP

end
-- MPI
section
/-! MPI: the tables of built-ins. -/
namespace MP
open PySem L2 PySem.Spec PyProof.Rows
def pNeg : List D → Option Ou
  | [.int i] => some (.dat (.int (-i)))
  | _ => none
def pIx : List D → Option Ou
  | [.lst xs, .int i] => (atI xs i).map .dat
  | [.tup xs, .int i] => (atI xs i).map .dat
  | [.str x, .int i] => if x.length ≤ LIM then (atI x.cps.toList i).map (fun c => .dat (.str ⟨#[c]⟩)) else none
  | _ => none
def cutD (xs : List D) (lo hi : Option Int) : List D := (xs.drop (HT.sIx xs.length 0 lo)).take (HT.sIx xs.length xs.length hi - HT.sIx xs.length 0 lo)
def pCut (lo hi : Option Int) : D → Option Ou
  | .lst xs => some (.new (.lst (cutD xs lo hi)))
  | .tup xs => some (.dat (.tup (cutD xs lo hi)))
  | .str x => if x.length ≤ LIM then some (.dat (.str (cutS x lo hi))) else none
  | _ => none
def pSl : Bool → Bool → List D → Option Ou
  | false, false, [d] => pCut none none d
  | true, false, [d, .int i] => pCut (some i) none d
  | false, true, [d, .int j] => pCut none (some j) d
  | true, true, [d, .int i, .int j] => pCut (some i) (some j) d
  | _, _, _ => none
def tyN : D → String
  | .non => "NoneType"
  | .bl _ => "bool"
  | .int _ => "int"
  | .str _ => "str"
  | .tup _ => "tuple"
  | .lst _ => "list"
  | .dct _ _ => "dict"
  | .obj _ _ _ => "object"
def tyL : List String := ["int", "str", "bool", "tuple", "list", "dict"]
def isiB (a b : String) : Bool := a == b || (a == "bool" && b == "int")
def isObjD : D → Bool
  | .obj _ _ _ => true
  | _ => false
def pIsi (t : String) : List D → Option Ou
  | [d] => if isObjD d then none else some (.dat (.bl (isiB (tyN d) t)))
  | _ => none
def dTup (ds : List D) : Option Ou := if ds.length ≤ LIM then some (.dat (.tup ds)) else none
def dLst (ds : List D) : Option Ou := if ds.length ≤ LIM then some (.new (.lst ds)) else none
def dDct : List D → Option Ou
  | [] => some (.new (.dct [] []))
  | _ => none
def isL : D → Bool
  | .lst _ => true
  | _ => false
def mApp : D → List D → Option (D × Ou)
  | .lst xs, [d] => if xs.length < LIM then some (.lst (xs ++ [d]), .dat .non) else none
  | _, _ => none
def stL : D → D → D → Option D
  | .lst xs, .int i, v => (ixN xs.length i).map fun j => .lst (xs.set j v)
  | _, _, _ => none
theorem isi_tab : ∀ a ∈ ["NoneType", "bool", "int", "str", "tuple", "list", "dict"], ∀ b ∈ tyL, kitB a b = some (isiB a b) := by decide +kernel
section
variable {P : Program} {w : World} {K : PySem.W.Frag} {mg : Str → Option Value} {base : Heap} {k : Nat} {N : List Str} {sv : Sv} {X : Cx} {Wx : WX}
theorem atI_map {vs : List V} {ds : List D} {i : Int} {d : D} {W : Hp} (r : DrA K W vs ds) (h : atI ds i = some d) : ∃ v, atI vs i = some v ∧ Dr K W v d := by
  unfold atI at h ⊢
  rw [r.length]
  cases q : ixN ds.length i with
  | none => rw [q] at h; cases h
  | some j =>
    rw [q] at h
    exact r.get h
theorem DrA.cut {vs : List V} {ds : List D} {W : Hp} (lo hi : Option Int) (r : DrA K W vs ds) : DrA K W (cutV vs lo hi) (cutD ds lo hi) := by
  unfold cutV cutD
  rw [r.length]
  exact (r.drop _).take _
theorem u_neg : UnR X (unaryOp .USub) (fun x => rP K pNeg [x]) := by
  intro pins s σ H x v Q I rx h
  obtain ⟨W, ds, o, l, tp, e, k⟩ := h
  unfold pNeg at e
  split at e
  · cases tp with | cons t tp =>
    cases tp
    cases e
    have := t.int
    subst this
    exact un_neg pins s σ H _ v Q I rx ⟨_, rfl, k _ W H (PSt.refl l) (.dat (.int _))⟩
  · cases e
theorem x_ix (hk : X.K = K) : IxR X (fun x y => rP K pIx [x, y]) := by
  subst hk
  intro value slice pins s σ H x y v u Q I rx ry h hs
  obtain ⟨W, ds, o, l, tp, e, k⟩ := h
  refine ix_seq value slice pins s σ H x y v u Q I rx ry ?_ hs
  unfold pIx at e
  split at e
  · cases tp with | cons t tp =>
    cases tp with | cons t2 tp =>
    cases tp
    rename_i xs i
    cases q : atI xs i with
    | none => rw [q] at e; cases e
    | some d =>
      rw [q] at e
      cases e
      have := t2.int
      subst this
      obtain ⟨a, vs, rfl, h1, r⟩ := t.lst l
      obtain ⟨z, e1, e2⟩ := atI_map r q
      exact .inl ⟨a, vs, i, z, rfl, rfl, h1, e1, k _ W H (PSt.refl l) (.dat e2)⟩
  · cases tp with | cons t tp =>
    cases tp with | cons t2 tp =>
    cases tp
    rename_i xs i
    cases q : atI xs i with
    | none => rw [q] at e; cases e
    | some d =>
      rw [q] at e
      cases e
      have := t2.int
      subst this
      obtain ⟨a, vs, rfl, h1, r⟩ := t.tup
      obtain ⟨z, e1, e2⟩ := atI_map r q
      exact .inr (.inl ⟨a, vs, i, z, rfl, rfl, h1.sq l, e1, k _ W H (PSt.refl l) (.dat e2)⟩)
  · cases tp with | cons t tp =>
    cases tp with | cons t2 tp =>
    cases tp
    rename_i x1 i
    split at e
    rotate_left
    · cases e
    rename_i hl
    cases q : atI x1.cps.toList i with
    | none => rw [q] at e; cases e
    | some d =>
      rw [q] at e
      cases e
      have := t2.int
      subst this
      have := t.str
      subst this
      exact .inr (.inr ⟨_, i, d, rfl, rfl, lim_le hl, q, k _ W H (PSt.refl l) (.dat (.str _))⟩)
  · cases e
def rSlAll (K : PySem.W.Frag) : V → Option Int → Option Int → Hp → VK → Prop := fun x lo hi H Q => (rSlL K x lo hi H Q ∨ rSlA K x lo hi H Q) ∨ rSlS x lo hi H Q
theorem sl_all : SlR X (rSlAll X.K) := (sl_list.or sl_tupA).or sl_str
theorem cut_ok {W H : Hp} {x : V} {d : D} {lo hi : Option Int} {o : Ou} {Q : VK} (l : Le W H) (t : Top K W H x d) (e : pCut lo hi d = some o) (k : ∀ v W' H', PSt W H W' H' → ORel K H W' H' v o → Q v H') : rSlAll K x lo hi H Q := by
  unfold pCut at e
  split at e
  · cases e
    obtain ⟨a, vs, rfl, h1, r⟩ := t.lst l
    refine .inl (.inl ⟨a, vs, rfl, h1, fun p hp => ?_⟩)
    obtain ⟨q1, q2⟩ := orel_lst l (r.cut lo hi) hp
    exact k _ _ _ q1 q2
  · rename_i xs
    cases e
    obtain ⟨a, vs, rfl, h1, r⟩ := t.tup
    refine .inl (.inr ⟨a, vs, rfl, h1.sq l, fun z => ?_, fun z p hp => ?_⟩)
    · have e2 : cutD xs lo hi = xs := by
        rw [r.length] at z
        unfold cutD
        rw [z.1, z.2, List.drop_zero, Nat.sub_zero, List.take_length]
      exact k _ W H (PSt.refl l) (.dat (by rw [e2]; exact .tup h1 r))
    · obtain ⟨q1, q2⟩ := orel_tup l (r.cut lo hi) hp
      exact k _ _ _ q1 q2
  · split at e
    · rename_i hl
      cases e
      have := t.str
      subst this
      exact .inr ⟨_, rfl, lim_le hl, k _ W H (PSt.refl l) (.dat (.str _))⟩
    · cases e
  · cases e
theorem tyD {pins : List (Addr × Obj)} {σ : L2.St} {H W : Hp} {s : Shared} {x : V} {u : Value} {d : D} (I : Inv X pins σ H s) (hk : X.K = K) (l : Le W H) (t : Top K W H x d) (no : isObjD d = false) (rx : RelV x u) :
    ∃ P : Heap → Prop, PySem.W.KitX X.K u (.type (tyN d)) P ∧ P s.heap ∧ u ≠ .builtin "__main__.__loader__#opaque" := by
  subst hk
  have kl : ∀ {a xs}, SqL X.K H a xs → ∃ P : Heap → Prop, PySem.W.KitX X.K (.ref a) (.type "list") P ∧ P s.heap ∧ Value.ref a ≠ .builtin "__main__.__loader__#opaque" := fun {a xs} h => by
    obtain ⟨its, r, ⟨o, n, h1, h2, _⟩, _⟩ := I.list h
    exact ⟨_, PySem.W.kitx_list, ⟨o, h1, h2⟩, fun z => nomatch z⟩
  have kd : ∀ {a kvs}, Rd H a (.dK kvs) → ∃ P : Heap → Prop, PySem.W.KitX X.K (.ref a) (.type "dict") P ∧ P s.heap ∧ Value.ref a ≠ .builtin "__main__.__loader__#opaque" := fun {a kvs} h => by
    obtain ⟨_, _, vs, _, o, es, ep, h1, h2, _⟩ := (show ObjOk X.prog X.w H s.heap a (.dK kvs) from h.ok I.hok)
    exact ⟨_, PySem.W.kitx_dict, ⟨o, h1, h2.1⟩, fun z => nomatch z⟩
  have kt : ∀ {a kvs}, Rd H a (.dT kvs) → ∃ P : Heap → Prop, PySem.W.KitX X.K (.ref a) (.type "dict") P ∧ P s.heap ∧ Value.ref a ≠ .builtin "__main__.__loader__#opaque" := fun {a kvs} h => by
    obtain ⟨_, _, vs, _, o, es, ep, h1, h2, _⟩ := (show ObjOk X.prog X.w H s.heap a (.dT kvs) from h.ok I.hok)
    exact ⟨_, PySem.W.kitx_dict, ⟨o, h1, h2.1⟩, fun z => nomatch z⟩
  cases t with
  | dat h =>
    cases h with
    | non => cases (show u = Value.none from rx); exact ⟨_, PySem.W.kitx_none, True.intro, fun z => nomatch z⟩
    | bl y => cases (show u = Value.bool y from rx); exact ⟨_, PySem.W.kitx_bool, True.intro, fun z => nomatch z⟩
    | int i => obtain ⟨t, q⟩ := (show ∃ t, u = Value.int i t from rx); cases q; exact ⟨_, PySem.W.kitx_int, True.intro, fun z => nomatch z⟩
    | str y => obtain ⟨t, q⟩ := (show ∃ t, u = Value.str y t from rx); cases q; exact ⟨_, PySem.W.kitx_str, True.intro, fun z => nomatch z⟩
    | tup h r =>
      cases rx
      obtain ⟨its, r, ⟨o, h1, h2, _⟩, _⟩ := I.tuple (h.sq l)
      exact ⟨_, PySem.W.kitx_tuple, ⟨o, h1, h2⟩, fun z => nomatch z⟩
    | lst h r => cases rx; exact kl (h.sq l)
    | dK h r => cases rx; exact kd (l.rd h)
    | dT _ h r => cases rx; exact kt (l.rd h)
    | obj h r => cases no
  | mt h =>
    cases h with
    | lst h r => cases rx; exact kl (SqL.of h)
    | dK h r => cases rx; exact kd (.inl h)
    | dT _ h r => cases rx; exact kt (.inl h)
    | obj h r => cases no
theorem tyN_mem {d : D} (no : isObjD d = false) : tyN d ∈ ["NoneType", "bool", "int", "str", "tuple", "list", "dict"] := by
  cases d <;> first | (simp [tyN]; done) | cases no
/-- isinstance(x, T) -/
theorem c_isi (hk : X.K = K) {t : String} (ht : t ∈ tyL) : CallR X (.builtin "isinstance") (fun xs H Q => ∃ x, xs = [x, .ty t] ∧ rP K (pIsi t) [x] H Q) := by
  intro pins s σ H xs us Q I r h
  obtain ⟨x, rfl, W, ds, o, l, tp, e, k⟩ := h
  obtain ⟨u1, u2, rfl, r1, r2⟩ := vals2 r
  cases r2
  cases tp with | cons tp t2 =>
  cases t2
  rename_i d
  unfold pIsi at e
  dsimp only at e
  split at e
  · cases e
  rename_i no
  have no' : isObjD d = false := by simpa using no
  cases e
  obtain ⟨P, Z, p, hx⟩ := tyD I hk l tp no' r1
  exact PySem.W.kia_one Z I.kIn p (kit_ty (isi_tab _ (tyN_mem no') _ ht)) hx fun tk => ⟨.bl _, H, I.tok tk, rfl, k _ W H (PSt.refl l) (.dat (.bl _))⟩
theorem MSt.lst {W H : Hp} {a : Addr} {vs : List V} {ds : List D} {o : HO} (hw : W a = none) (l : Le W H) (ha : H a = some o) (r : DrA K W vs ds) : MSt K W H a (.lst ds) W (upd H a (.lst vs)) :=
  ⟨Ex.refl _, fun b u e => by
    have : b ≠ a := fun z => by rw [z, hw] at e; cases e
    rcases l b u e with q | ⟨ob, q, t⟩
    · exact .inl (by rw [upd_ne this]; exact q)
    · exact .inr ⟨ob, by rw [upd_ne this]; exact q, t⟩, fun b u e n => by rw [upd_ne n]; exact e, .lst upd_same r, hw, fun b e => .inl e⟩
theorem m_app : MtM X "list.append" (rM K mApp) := by
  intro pins s σ H x xs v us Q I rx rv h
  obtain ⟨a, W, d, ds, d', o, rfl, hw, l, m, r, e, k⟩ := h
  refine mt_append pins s σ H _ xs v us Q I rx rv ?_
  unfold mApp at e
  split at e
  · split at e
    · rename_i hl
      cases e
      cases m with | lst hm rm =>
      cases r with | cons r1 r2 =>
      cases r2
      refine ⟨a, _, _, rfl, rfl, hm, lim_lt (by rw [rm.length]; exact hl), ?_⟩
      exact k _ W _ (MSt.lst hw l hm (rm.append (.cons r1 .nil))) (.dat .non)
    · cases e
  · cases e
theorem s_lst : PSet X (rSt K stL) := by
  intro pins s σ H o i v ov iv u Q I ro ri rv h
  obtain ⟨a, W, d, dk, dv, d', rfl, hw, l, m, r1, r2, e, k⟩ := h
  unfold stL at e
  split at e
  · rename_i xs ii
    cases q : ixN xs.length ii with
    | none => rw [q] at e; cases e
    | some j =>
      rw [q] at e
      cases e
      cases m with | lst hm rm =>
      cases r1
      refine set_list pins s σ H _ _ v ov iv u Q I ro ri rv ⟨a, _, ii, j, rfl, rfl, hm, by rw [rm.length]; exact q, ?_⟩
      exact k W _ (MSt.lst hw l hm (rm.set r2 j))
  · cases e
/-! the tables -/
def sBlt (x : Str) : Option (List D → Option Ou) :=
  if x = "len" then some pLen else if x = "abs" then some pAbs else if x = "int" then some pInt else if x = "max" then some pMax else if x = "min" then some pMin
  else if x = "sum" then some pSum else if x = "all" then some pAll else if x = "any" then some pAny else if x = "tuple" then some pTup else if x = "list" then some pLst
  else if x = "sorted" then some pSrt else if x = "repr" then some pRepr else none
def tyOfName (x : Str) : Option String := if x = "int" then some "int" else if x = "str" then some "str" else if x = "bool" then some "bool" else if x = "tuple" then some "tuple" else if x = "list" then some "list" else if x = "dict" then some "dict" else none
def pIx? : Expr → Bool
  | .Slice _ _ _ _ => false
  | _ => true
def pIdI : List D → Option Ou
  | [.int i] => some (.dat (.int i))
  | _ => none
def wrap2 : Ta → Ta
  | .cons a (.cons b (.cons c .nil)) => .cons a (.cons (.prim pIdI (.cons b .nil)) (.cons c .nil))
  | as => as
def spec0 (sc : Scope) (e : Expr) : Option ((Ta → Tm) × List Expr) := match e with
  | .BinOp a op b _ => some (.prim (pBin op), [a, b])
  | .UnaryOp .USub a _ => some (.prim pNeg, [a])
  | .Subscript a (.Slice lo hi none _) _ => some (fun as => .prim (pSl lo.isSome hi.isSome) (wrap2 as), a :: (lo.toList ++ hi.toList))
  | .Subscript a b _ => if pIx? b then some (.prim pIx, [a, b]) else none
  | .Call (.Name x _) [e, .Name t pt] [] _ => if x = "isinstance" then (if glB sc x && glB sc t && notStar e then (tyOfName t).map fun t => (.prim (pIsi t), [e]) else none) else if glB sc x && notStar e then (sBlt x).map fun f => (.prim f, [e, .Name t pt]) else none
  | .Call (.Name x _) (e :: es) [] _ => if glB sc x && (e :: es).all notStar then (sBlt x).map fun f => (.prim f, e :: es) else none
  | .Call (.Name x _) [e] [⟨some kx, .Constant (.bool true) _ _, _⟩] _ => if x = "sorted" ∧ kx = "reverse" then (if glB sc x && notStar e then some (.prim pSrtR, [e]) else none) else none
  | .Tuple es _ _ => if es.all notStar then some (.mk dTup, es) else none
  | .List es _ => if es.all notStar then some (.mk dLst, es) else none
  | .Dict [] [] _ => some (.mk dDct, [])
  | _ => none
def isp0 (sc : Scope) (tg e : Expr) : Option ((List D → Option (List D)) × List Expr) := match e with
  | .Call (.Name x _) [a] [] _ => if x = "range" then (if glB sc x && notStar a then some (gRng1, [a]) else none)
    else if x = "enumerate" then (match tg with
      | .Tuple _ _ _ => if glB sc x && notStar a then some (gEnum, [a]) else none
      | _ => none)
    else some (gSeq, [e])
  | .Call (.Name x _) [a, b] [] _ => if x = "range" then (if glB sc x && notStar a && notStar b then some (gRng2, [a, b]) else none) else some (gSeq, [e])
  | .Call (.Name x _) _ _ _ => if x = "range" ∨ x = "enumerate" ∨ x = "zip" ∨ x = "reversed" ∨ x = "set" then none else some (gSeq, [e])
  | e => some (gSeq, [e])
def msp0 (_ : Scope) (e : Expr) : Option (Str × (D → Bool) × (D → List D → Option (D × Ou)) × List Expr) := match e with
  | .Call (.Attribute (.Name x _) m ap) [a] [] cp => if m = "append" ∧ notStar a = true ∧ (ap.endLine == cp.line) = true then some (x, isL, mApp, [a]) else none
  | _ => none
end
end MP

end
-- MPV
section
/-! MPV: objects of the program's classes. -/
namespace MP
open PySem L2 PySem.Spec PyProof.Rows
def notSup : Expr → Bool
  | .Call (.Name x _) [] [] _ => x != "super"
  | _ => true
theorem sup_ok {o : Expr} {m : Str} {env : Env} (h : notSup o = true) : attributeBase o m env (eval o env) = eval o env := by
  unfold attributeBase
  split
  · rename_i id p pos
    have h' : (id != "super") = true := h
    rw [h']
    rfl
  · rfl
theorem star_all {pos : Pos} {env : Env} : ∀ {es : List Expr}, es.all notStar = true → (backTo pos (starEach es env)).all (fun x => !x.1) = true
  | [], _ => rfl
  | e :: es, h => by
    simp only [List.all_cons, Bool.and_eq_true] at h
    rw [star_cons h.1]
    show (true && (backTo pos (starEach es env)).all (fun x => !x.1)) = true
    rw [star_all h.2]
    rfl
theorem eval_meth {o : Expr} {m : Str} {apos pos : Pos} {args : List Expr} {env : Env} (hb : notSup o = true) (hn : args.all notStar = true) (hl : args.length < 30) (hline : (apos.endLine == pos.line) = true) :
    eval (.Call (.Attribute o m apos) args [] pos) env = (do
      let ov ← eval o env
      standAt apos.atName
      let (f, first) ← holding [ov] (getMethod ov m (do return (← importBound o env).getD true))
      callWith pos f first (backTo pos (starEach args env)) (backToKw pos (keywordEach [] env))) := by
  rw [arm_eval_Call, sup_ok hb]
  have hform : methodCallForm (args.length + ([] : List Keyword).length) (backTo pos (starEach args env)) (backToKw pos (keywordEach [] env)) = true := by
    unfold methodCallForm
    rw [star_all hn]
    simp [hl, keywordEach, backToKw]
  have hpos : methodCallPos true o env apos pos = pure pos := by unfold methodCallPos; simp [hline]
  congr 1
  funext ov
  congr 1
  funext _
  unfold methodCall
  rw [hform, hpos]
  unfold calleeOf
  rw [if_pos rfl]
  congr 1
theorem make_guards {A : Around} {C : Addr} {us : List Value} {kw : List (Str × Value)} (h : A.guards = some []) : (A.under (.builtin "type.__call__" ⟨.ref C :: us, kw⟩)).guards = some [] := by
  first
  | exact h
  | simp [Around.under, Code.guards, pushGuards, Code.isGuard, guardIds, h]
section
variable {X : Cx} {pins : List (Addr × Obj)} {σ : L2.St} {H : Hp} {s : Shared} {a C dx : Addr} {fs : List (Str × V)} {f : Str} {v : V} {A : Around} {E : Value → Shared → Prop}
theorem ins_rd {P : Program} {w : World} {h : Heap} (hok : HOk P w H h) (e : Rd H a (.ins C dx fs)) : ∃ mA, ObjM h a dx C mA ∧ (∀ f, RelO (fs.lookup f) (mA f)) := by
  obtain ⟨d, z, ne, ob, mA, n, r, q⟩ := (show ObjOk P w H h a (.ins C dx fs) from e.ok hok)
  exact ⟨mA, ⟨ob, n, ne⟩, r⟩
theorem getattr_rd {b : Bool} {Q : Value → Shared → Prop} (I : Inv X pins σ H s) (e : Rd H a (.ins C dx fs)) (c : Cls X.K C) (n : NoAttr X.K C f) (l : fs.lookup f = some v)
    (h : ∀ u s', Inv X pins σ H s' → RelV v u → Q u s') : wpAny (model X.prog X.w) A (getAttr (.ref a) f b) Q E s := by
  obtain ⟨mA, O, r⟩ := ins_rd I.hok e
  obtain ⟨u, hu, ru⟩ := RelO.some_of (v := v) (o := mA f) (by rw [← l]; exact r f)
  exact get_map I.kIn O (c.get f) c.hd n hu (handed_of ru) (h u _ (I.tok _) ru)
theorem getmeth_rd {m : Str} {g : Addr} {pl : Sem Bool} {Q : Value × List Value → Shared → Prop} (I : Inv X pins σ H s) (e : Rd H a (.ins C dx fs)) (c : Cls X.K C) (k : Meth X.K C m g) (l : fs.lookup m = none)
    (h : Q (.ref g, [.ref a]) s) : wpAny (model X.prog X.w) A (getMethod (.ref a) m pl) Q E s := by
  obtain ⟨mA, O, r⟩ := ins_rd I.hok e
  have hn : mA m = none := RelO.none_of (by rw [← l]; exact r m)
  exact get_meth I.kIn O (c.get m) k.at_ k.fn hn h
/-- a def runs, called from somewhere within -/
theorem runAt {CX : CXT} {k : Nat} {f : Addr} {fd : FuncData} {ps : List Str} {sp : Sp} {Q : VK} {us : List Value} {vs : List V} {E : XK} (F : FnG X.prog X.w X.K X.mg X.base CX k f fd ps sp) (hr : Room k A) (hfr : A.frames = X.A.frames) (hgd : A.guards = some []) (hb : Binds X.K fd ps []) (hx : PassesAt CX X σ E)
    (I : Inv X pins σ H s) (r : Vals vs us) (h : sp vs H Q E) : wpAny (model X.prog X.w) A (call (.ref f) us) (EP X pins σ Q) X.xe s := by
  have ll : (us ++ []).length = ps.length := by rw [List.append_nil, ← r.length]; exact F.len _ _ _ _ h
  have en : Env0 X.prog X.w X.K X.mg X.base A X.stack s H := by
    have e := I.env0
    exact ⟨by rw [hfr]; exact e.frames, e.mod, e.bs, e.bsz, e.funs, e.frf, e.hok, e.bare⟩
  have bt := hb s us I.kIn ll
  rw [List.append_nil] at bt
  refine wpAny_call (codeAny_mono (F.run A X.stack s H ⟨us, []⟩ us vs Q E hr hgd en bt r h) ?_)
  intro res s' hq
  cases res with
  | error e => exact hx pins H s e s' I hq
  | ok fl =>
    cases fl <;> first | exact I.after hq | exact False.elim hq
end
/-- an object as a datum -/
theorem Top.obj {K : PySem.W.Frag} {W H : Hp} {x : V} {c : Str} {ns : List Str} {vs : List D} (t : Top K W H x (.obj c ns vs)) (l : Le W H) : ∃ a dx fs, x = .ref a ∧ Rd H a (.ins (He.ga K c) dx fs) ∧ fs.map (·.1) = ns ∧ DrA K W (fs.map (·.2)) vs := by
  cases t with
  | dat h =>
    generalize hns : ns = nn at h
    cases h with
    | obj h r => exact ⟨_, _, _, rfl, l.rd h, rfl, r⟩
  | mt h =>
    generalize hns : ns = nn at h
    cases h with
    | obj h r => exact ⟨_, _, _, rfl, .inl h, rfl, r⟩
theorem lk_none {α : Type} : ∀ {l : List (Str × α)} {x : Str}, x ∉ l.map (·.1) → l.lookup x = none
  | [], _, _ => rfl
  | (y, v) :: r, x, h => by
    simp only [List.map_cons, List.mem_cons, not_or] at h
    rw [List.lookup_cons, beq_eq_false_iff_ne.mpr h.1]
    exact lk_none h.2
/-- a field's value -/
def fldD (f : Str) : List Str → List D → Option D
  | n :: ns, v :: vs => if f = n then some v else fldD f ns vs
  | _, _ => none
theorem fldD_ok {K : PySem.W.Frag} {W : Hp} {f : Str} {d : D} : ∀ {fs : List (Str × V)} {vs : List D}, DrA K W (fs.map (·.2)) vs → fldD f (fs.map (·.1)) vs = some d → ∃ v, fs.lookup f = some v ∧ Dr K W v d
  | [], _, h, e => by cases h; cases e
  | (g, x) :: fs, vs0, h, e => by
    cases h with
    | @cons _ _ y vs h1 h2 =>
      simp only [List.map_cons, fldD] at e
      rw [List.lookup_cons]
      split at e
      · rename_i q
        cases e
        subst q
        exact ⟨x, by simp, h1⟩
      · rename_i q
        rw [beq_eq_false_iff_ne.mpr q]
        exact fldD_ok h2 e
def pFld (cs : List Str) (f : Str) : List D → Option Ou
  | [.obj c ns vs] => if cs.contains c = true then (fldD f ns vs).map .dat else none
  | _ => none
/-- the method of an object's class -/
def selM (m : Str) (tb : List (Str × Fn)) : D → Option Fn
  | .obj c ns _ => if ns.contains m = true then none else tb.lookup c
  | _ => none
def noxF (f : Fn) : Fn := ⟨f.io, fun ds => match f.F ds with
  | .exn _ _ => .stuck
  | r => r⟩
def selP (tb : List (Str × Fn)) : D → Option Fn
  | .obj c _ _ => (tb.lookup c).map noxF
  | _ => none
theorem noxF_sp {K : PySem.W.Frag} {f : Fn} {vs : List V} {H : Hp} {Q : VK} {E E' : XK} (h : spF K (noxF f) vs H Q E) : spF K f vs H Q E' := by
  obtain ⟨W, ds, l, a, n, h⟩ := h
  refine ⟨W, ds, l, a, n, ?_⟩
  unfold noxF at h
  dsimp only at h
  cases e : f.F ds with
  | ok o ios => rw [e] at h; exact h
  | exn x ios => rw [e] at h; exact h.elim
  | stuck => rw [e] at h; exact h.elim
section
variable {P : Program} {w : World} {K : PySem.W.Frag} {mg : Str → Option Value} {base : Heap} {k : Nat} {N : List Str} {sv : Sv} {X : Cx} {Wx : WX}
theorem fld_ok (C : Cv P w K mg base k N sv X Wx) {cs : List Str} {f : Str} {o : Expr} {as : Ta} {pos : Pos} (hc : ∀ c ∈ cs, Cls K (He.ga K c) ∧ NoAttr K (He.ga K c) f) (hs : notSup o = true) (h : PEs X K Wx [o] as) : PE X (.Attribute o f pos) (den K Wx (.prim (pFld cs f) as)) := by
  have kk := C.kk
  subst kk
  cases h with | cons h1 h2 =>
  cases h2
  refine ⟨fun pins s σ H Q I h => ?_⟩
  refine attr_of (sup_ok hs) (thn (h1.run pins s σ H _ I (den_prim1 h)) fun u s1 ⟨x, H1, I1, rx, q⟩ => ?_)
  obtain ⟨W, ds, ou, l, tp, e, k1⟩ := q
  cases tp with | cons tp t2 =>
  cases t2
  rename_i d
  cases d with
  | obj c ns vs =>
    simp only [pFld] at e
    split at e
    rotate_left
    · cases e
    rename_i hcs
    obtain ⟨a, dx, fs, rfl, rd, rfl, r⟩ := tp.obj l
    obtain ⟨k2, k3⟩ := hc c (by simpa using hcs)
    cases q : fldD f (fs.map (·.1)) vs with
    | none => rw [q] at e; cases e
    | some d =>
      rw [q] at e
      cases e
      obtain ⟨v, e1, e2⟩ := fldD_ok r q
      obtain rfl : u = Value.ref a := rx
      exact getattr_rd I1 rd k2 k3 e1 fun u' s2 I2 ru => ⟨v, H1, I2, ru, k1 v W H1 (PSt.refl l) (.dat e2)⟩
  | _ => simp [pFld] at e
/-- a def is callable: all arguments given, or the last ones by default -/
theorem calb_fn {k : Nat} {ad : Addr} {n : Nat} {fd : FuncData} {ps : List Str} {f g : Fn} {dvs : List V} {ds : List Value} (F : FnG P w K mg base (L2.CX P w) k ad fd ps (spF K f)) (hb : Binds K fd ps ds) (hd : Vals dvs ds)
    (hs : ∀ (vs : List V) (H : Hp) (Q : VK) (E : XK), vs.length = n → spF K g vs H Q E → spF K f (vs ++ dvs) H Q E) : Calb P w K mg base k ad n g := by
  intro X E A pins s σ H Q us vs e1 e2 e3 e4 e5 hr hfr hgd hx I r hl h
  subst e1 e2 e3 e4 e5
  have h' := hs vs H Q E hl h
  have rr : Vals (vs ++ dvs) (us ++ ds) := r.append hd
  have ll : (us ++ ds).length = ps.length := rr.length ▸ F.len _ _ _ _ h'
  have en : Env0 X.prog X.w X.K X.mg X.base A X.stack s H := by
    have e := I.env0
    exact ⟨by rw [hfr]; exact e.frames, e.mod, e.bs, e.bsz, e.funs, e.frf, e.hok, e.bare⟩
  refine codeAny_mono (F.run A X.stack s H ⟨us, []⟩ (us ++ ds) (vs ++ dvs) Q E hr hgd en (hb s us I.kIn ll) rr h') ?_
  intro res s' hq
  cases res with
  | error e => exact hx pins H s e s' I hq
  | ok fl =>
    cases fl <;> first | exact I.after hq | exact False.elim hq
theorem calb_all {k : Nat} {ad : Addr} {n : Nat} {fd : FuncData} {ps : List Str} {f : Fn} (F : FnG P w K mg base (L2.CX P w) k ad fd ps (spF K f)) (hb : Binds K fd ps []) : Calb P w K mg base k ad n f :=
  calb_fn F hb .nil fun vs H Q E _ h => by rw [List.append_nil]; exact h
/-- the last arguments by default -/
def dflF (f : Fn) (n : Nat) (dd : List D) : Fn := ⟨f.io.take n, fun ds => if ds.length = n ∧ f.io = f.io.take n ++ dd.map (fun _ => false) then f.F (ds ++ dd) else .stuck⟩
theorem ArgR.app {W H : Hp} : ∀ {bs : List Bool} {vs : List V} {ds : List D} {us : List V} {es : List D}, ArgR K W H bs vs ds → DrA K W us es → ArgR K W H (bs ++ es.map fun _ => false) (vs ++ us) (ds ++ es)
  | _, _, _, [], _, .nil, .nil => .nil
  | _, _, _, _ :: _, _, .nil, .cons h r => .dat h (ArgR.app .nil r)
  | _, _, _, _, _, .dat h r, q => .dat h (r.app q)
  | _, _, _, _, _, .io h m r, q => .io h m (r.app q)
theorem ioA_app {us : List V} {es : List D} : ∀ {bs : List Bool} {vs : List V}, bs.length = vs.length → ioA (bs ++ es.map fun _ => false) (vs ++ us) = ioA bs vs ++ ioA (es.map fun _ => false) us
  | [], [], _ => rfl
  | [], _ :: _, h => by simp at h
  | _ :: _, [], h => by simp at h
  | b :: bs, v :: vs, h => by
    have := ioA_app (us := us) (es := es) (bs := bs) (vs := vs) (by simpa using h)
    cases b <;> cases v <;> simp [ioA, this]
theorem ioA_no : ∀ {us : List V} {es : List D}, ioA (es.map fun _ => false) us = []
  | [], [] => rfl
  | [], _ :: _ => rfl
  | v :: _, [] => by cases v <;> rfl
  | v :: us, e :: es => by
    have := ioA_no (us := us) (es := es)
    cases v <;> simpa [ioA] using this
theorem dfl_sp {f : Fn} {n : Nat} {dd : List D} {dvs vs : List V} {H : Hp} {Q : VK} {E : XK} (hd : ∀ W, DrA K W dvs dd) (h : spF K (dflF f n dd) vs H Q E) : spF K f (vs ++ dvs) H Q E := by
  obtain ⟨W, ds, l, a, nd, h⟩ := h
  unfold dflF at h a nd
  dsimp only at h a nd
  by_cases cd : ds.length = n ∧ f.io = f.io.take n ++ dd.map (fun _ => false)
  · rw [if_pos cd] at h
    obtain ⟨c1, c2⟩ := cd
    have e1 : ioA f.io (vs ++ dvs) = ioA (f.io.take n) vs := by
      have z : ioA (f.io.take n ++ dd.map fun _ => false) (vs ++ dvs) = ioA (f.io.take n) vs := by
        rw [ioA_app a.length.1.symm, ioA_no, List.append_nil]
      rw [← c2] at z
      exact z
    have ar : ArgR K W H f.io (vs ++ dvs) (ds ++ dd) := by
      have z := a.app (hd W)
      rw [← c2] at z
      exact z
    refine ⟨W, ds ++ dd, l, ar, by rw [e1]; exact nd, ?_⟩
    rw [e1]
    exact h
  · rw [if_neg cd] at h
    exact h.elim
/-- what is known of a class's method -/
def MtOk (P : Program) (w : World) (K : PySem.W.Frag) (mg : Str → Option Value) (base : Heap) (k : Nat) (c m : Str) (n : Nat) (f : Fn) : Prop :=
  Cls K (He.ga K c) ∧ ∃ g, Meth K (He.ga K c) m g ∧ Calb P w K mg base k g (n + 1) f
theorem lkm {α : Type} : ∀ {l : List (Str × α)} {x : Str} {f : α}, l.lookup x = some f → (x, f) ∈ l
  | [], _, _, h => by cases h
  | (y, g) :: r, x, f, h => by
    rw [List.lookup_cons] at h
    cases q : x == y with
    | true =>
      rw [q] at h
      cases h
      rw [eq_of_beq q]
      exact List.mem_cons_self
    | false =>
      rw [q] at h
      exact List.mem_cons_of_mem _ (lkm h)
theorem meth_ok (C : Cv P w K mg base k N sv X Wx) {tb : List (Str × Fn)} {m : Str} {o : Expr} {es : List Expr} {t : Tm} {as : Ta} {apos pos : Pos} (hm : ∀ p ∈ tb, MtOk P w K mg base k p.1 m es.length p.2) (hs : notSup o = true) (hn : es.all notStar = true) (hl : es.length < 30) (hline : (apos.endLine == pos.line) = true)
    (ho : PE X o (den K Wx t)) (ha : PEs X K Wx es as) : PE X (.Call (.Attribute o m apos) es [] pos) (den K Wx (.meth (selM m tb) t as)) := by
  have hp := C.p; have hw := C.w; have kk := C.kk; have hmg := C.m; have hbs := C.b
  subst hp hw kk hmg hbs
  refine ⟨fun pins s σ H Q I h => ?_⟩
  refine PySem.W.methodCall_KW (thn (ho.run pins s σ H _ I (den_meth h)) fun u s1 ⟨x, H1, I1, rx, q⟩ => ?_) (eval_meth hs hn hl hline)
  obtain ⟨W, d, f, l, tp, e, q⟩ := q
  cases d with
  | obj c ns vs =>
    simp only [selM] at e
    split at e
    · cases e
    rename_i hns
    obtain ⟨a, dx, fs, rfl, rd, rfl, r⟩ := tp.obj l
    obtain ⟨k1, g, k2, k3⟩ := hm _ (lkm e)
    obtain rfl : u = Value.ref a := rx
    have lk : fs.lookup m = none := lk_none fun z => hns (by simpa using z)
    refine getmeth_rd I1 rd k1 k2 lk ?_
    cases es with
    | nil =>
      cases ha
      refine PySem.W.callWith_K0 (first := [.ref a]) I1.kIn k2.kp ?_
      exact wpAny_call <| k3 X (WE Wx σ) X.A pins s1 σ H1 Q [.ref a] [.ref a] rfl rfl rfl rfl rfl C.room rfl C.gd (passAt C.tk σ) I1 (.cons rfl .nil) rfl (denA_nil q)
    | cons e0 es =>
      have hn' : notStar e0 = true ∧ es.all notStar = true := by simpa [List.all_cons, Bool.and_eq_true] using hn
      refine PySem.W.callWith_K (first := [.ref a]) (h₀ := X.base) I.ok.mod.kin k2.kp (thn ((ha.pa hn).run pos pins s1 σ H1 _ I1 (denA_len ha q)) fun us s2 ⟨vs, H2, I2, r, hlen, q2⟩ => ⟨I2.kIn, ?_⟩) (star_cons hn'.1) (star_any hn'.2)
      exact wpAny_call <| k3 X (WE Wx σ) X.A pins s2 σ H2 Q (.ref a :: us) (.ref a :: vs) rfl rfl rfl rfl rfl C.room rfl C.gd (passAt C.tk σ) I2 (.cons rfl r) (by simp [hlen]) q2
  | _ => cases e
/-- what is known of a class's property -/
def PrOk (P : Program) (w : World) (K : PySem.W.Frag) (mg : Str → Option Value) (base : Heap) (k : Nat) (c m : Str) (f : Fn) : Prop :=
  Cls K (He.ga K c) ∧ ∃ p g fd ps, PropOf K (He.ga K c) m p g ∧ Binds K fd ps [] ∧ FnG P w K mg base (L2.CX P w) k g fd ps (spF K f)
theorem prop_ok (C : Cv P w K mg base (k + 1) N sv X Wx) {tb : List (Str × Fn)} {m : Str} {o : Expr} {as : Ta} {t : Tm} {pos : Pos} (hm : ∀ p ∈ tb, PrOk P w K mg base k p.1 m p.2) (hs : notSup o = true)
    (h : PE X o (den K Wx t)) : PE X (.Attribute o m pos) (den K Wx (.meth (selP tb) t .nil)) := by
  have hp := C.p; have hw := C.w; have kk := C.kk; have hmg := C.m; have hbs := C.b
  subst hp hw kk hmg hbs
  refine ⟨fun pins s σ H Q I hd => ?_⟩
  refine attr_of (sup_ok hs) (thn (h.run pins s σ H _ I (den_meth hd)) fun u s1 ⟨x, H1, I1, rx, q⟩ => ?_)
  obtain ⟨W, d, f, l, tp, e, q⟩ := q
  cases d with
  | obj c ns vs =>
    simp only [selP] at e
    cases ef : tb.lookup c with
    | none => rw [ef] at e; cases e
    | some f0 =>
      rw [ef] at e
      cases e
      obtain ⟨a, dx, fs, rfl, rd, rfl, r⟩ := tp.obj l
      obtain ⟨k1, p, g, fd, ps, k2, k3, k4⟩ := hm _ (lkm ef)
      obtain rfl : u = Value.ref a := rx
      have sp : spF X.K f0 [.ref a] H1 Q (fun _ _ _ => False) := noxF_sp (denA_nil q)
      obtain ⟨mA, O, _⟩ := ins_rd I1.hok rd
      obtain ⟨od, J, _⟩ := O.look
      obtain ⟨rest, hrec⟩ := k2.rec_
      have I2 := I1.tok (s1.toks + 1)
      have hl : ([Value.ref a] ++ []).length = ps.length := (k4.len _ _ _ _ sp)
      have hc : (PySem.W.clsIn X.K (He.ga X.K c)).isSome = true := by
        obtain ⟨cd, hc, _⟩ := PySem.W.any_some k1.hd
        rw [hc]
        rfl
      refine PySem.W.get_bind I1.kIn J (PySem.W.plainGet_of (k1.get m)).1 (PySem.W.findObj_data hc k2.at_ k2.get k2.tak) (PySem.W.plainGet_of (k1.get m)).2 (wpAny_call (PySem.W.prop_get (s := { s1 with toks := s1.toks + 1 }) I1.kIn hrec ?_))
      refine codeAny_mono (k4.run X.A.in1 X.stack { s1 with toks := s1.toks + 1 } H1 ⟨[.ref a], []⟩ [.ref a] [.ref a] Q (fun _ _ _ => False) C.room.in1 C.gd I2.env0.in1 (by have := k3 _ [.ref a] I2.kIn hl; simpa using this) (.cons rfl .nil) sp) fun r s' hq => ?_
      cases r with
      | error er =>
        obtain ⟨_, _, _, _, _, _, _, _, _, _, _, _, z⟩ := hq
        exact z.elim
      | ok fl =>
        cases fl with
        | ret u =>
          obtain ⟨v, H', I3, rv, q3⟩ := I2.after hq
          show wpAny _ _ (handedOut u) _ _ _
          rw [PySem.W.handedOut_of (handed_of rv)]
          exact wpAny_pure ⟨v, H', I3, rv, q3⟩
        | next => exact False.elim hq
        | brk => exact False.elim hq
        | cont => exact False.elim hq
  | _ => cases e
/-- an object is made -/
def mkF (c : Str) (f : Fn) : Fn := ⟨f.io.tail, fun ds => if f.io = true :: f.io.tail then (match f.F (.obj c [] [] :: ds) with
  | .ok (.dat .non) (self :: ios) => .ok (.new self) ios
  | .exn x (_ :: ios) => .exn x ios
  | _ => .stuck) else .stuck⟩
theorem mono_upd {W H H' : Hp} (e : Ex H H') : ∀ {bs : List Bool} {vs : List V} {ds : List D}, ArgR K W H bs vs ds → ArgR K W H' bs vs ds
  | _, _, _, .nil => .nil
  | _, _, _, .dat h r => .dat h (mono_upd e r)
  | _, _, _, .io h m r => .io h (m.mono (Ex.refl _) fun o z => e _ _ z) (mono_upd e r)
theorem ioA_ne {W H : Hp} : ∀ {bs : List Bool} {vs : List V} {ds : List D} {a : Addr}, ArgR K W H bs vs ds → a ∈ ioA bs vs → H a ≠ none
  | _, _, _, _, .nil, h => by simp [ioA] at h
  | _, v :: _, _, _, .dat _ r, h => by
    refine ioA_ne r ?_
    cases v <;> exact h
  | _, _, _, _, .io _ m r, h => by
    simp only [ioA, List.mem_cons] at h
    rcases h with h | h
    · subst h; exact m.ne
    · exact ioA_ne r h
theorem mk_sp {c : Str} {f : Fn} {vs : List V} {H : Hp} {Q : VK} {E : XK} {x dx : Addr} (h : spF K (mkF c f) vs H Q E) (hx : H x = none) (hd : H dx = none) (hne : dx ≠ x) :
    spF K f (.ref x :: vs) (upd (upd H dx (.own x)) x (.ins (He.ga K c) dx [])) (fun v H2 => v = .non ∧ Q (.ref x) H2) E := by
  obtain ⟨W, ds, l, a, nd, h⟩ := h
  unfold mkF at h a nd
  dsimp only at h a nd
  by_cases hio : f.io = true :: f.io.tail
  rotate_left
  · rw [if_neg hio] at h
    exact h.elim
  rw [if_pos hio] at h
  have ex : Ex H (upd (upd H dx (.own x)) x (.ins (He.ga K c) dx [])) := (Ex.new hd).trans (Ex.new (by rw [upd_ne (Ne.symm hne)]; exact hx))
  have wx : W x = none := l.no hx
  have aR : ArgR K W (upd (upd H dx (.own x)) x (.ins (He.ga K c) dx [])) f.io (.ref x :: vs) (.obj c [] [] :: ds) := by
    rw [hio]
    exact .io wx (MutAt.obj (fs := []) upd_same .nil) (mono_upd ex a)
  have ei : ioA f.io (.ref x :: vs) = x :: ioA f.io.tail vs := by
    conv => lhs; rw [hio]
    rfl
  have nx : x ∉ ioA f.io.tail vs := fun z => ioA_ne a z hx
  refine ⟨W, .obj c [] [] :: ds, l.ext ex, aR, by rw [ei]; exact List.nodup_cons.mpr ⟨nx, nd⟩, ?_⟩
  rw [ei]
  have hat : ∀ y, y ≠ x → y ≠ dx → upd (upd H dx (.own x)) x (.ins (He.ga K c) dx []) y = H y := fun y h1 h2 => by rw [upd_ne h1, upd_ne h2]
  have back : ∀ {W' H2 : Hp}, FSt W (upd (upd H dx (.own x)) x (.ins (He.ga K c) dx [])) (x :: ioA f.io.tail vs) W' H2 → FSt W H (ioA f.io.tail vs) W' H2 := fun {W' H2} F => by
    refine ⟨F.w, F.le, fun y o e n g => F.fr y o (ex y o e) (fun z => ?_) g, fun y e => F.th y fun z => ?_, fun y e => ?_⟩
    · rcases List.mem_cons.mp z with z | z
      · rw [z, hx] at e; cases e
      · exact n z
    · obtain ⟨o, q⟩ := ne_none e
      rw [ex y o q] at z
      cases z
    · by_cases y1 : y = x
      · subst y1; exact .inr (.inl hx)
      · by_cases y2 : y = dx
        · subst y2; exact .inr (.inl hd)
        · rcases F.nw y e with z | z | ⟨ys, z⟩
          · exact .inl z
          · rw [hat y y1 y2] at z; exact .inr (.inl z)
          · rw [hat y y1 y2] at z; exact .inr (.inr ⟨ys, z⟩)
  cases ef : f.F (.obj c [] [] :: ds) with
  | stuck => rw [ef] at h; exact h.elim
  | exn xn ios =>
    rw [ef] at h
    cases ios with
    | nil => exact h.elim
    | cons d0 ios =>
      intro cls dd W' H2 F I X
      cases I with
      | cons i1 i2 i3 => exact h cls dd W' H2 (back F) i3 X
  | ok o ios =>
    rw [ef] at h
    cases o with
    | new _ => exact h.elim
    | dat d =>
      cases d with
      | non =>
        cases ios with
        | nil => exact h.elim
        | cons d0 ios =>
          intro v W' H2 F I O
          cases O with
          | dat q =>
            cases q
            cases I with
            | cons i1 i2 i3 => exact ⟨rfl, h (.ref x) W' H2 (back F) i3 (.new hx i1 i2)⟩
      | _ => exact h.elim
theorem calb_mk {C fa : Addr} {c : Str} {n : Nat} {f : Fn} (hC : C = He.ga K c) (M : Mk K C fa) (F : Calb P w K mg base k fa (n + 1) f) : Calb P w K mg base (k + 1) C n (mkF c f) := by
  subst hC
  intro X E A pins s σ H Q us vs e1 e2 e3 e4 e5 hr hfr hgd hx I r hl h
  subst e1 e2 e3 e4 e5
  have hq := mk_sp (x := s.heap.objs.size + 1) (dx := s.heap.objs.size) h (I.hok.fresh (Nat.le_succ _)) (I.hok.fresh (Nat.le_refl _)) (Nat.ne_of_lt (Nat.lt_succ_self _))
  have I2 := Inv.made (C := He.ga X.K c) I
  refine make_map (f := fa) I.kIn M.makes M.init (beq_iff_eq.mp M.fn) ?_
  have q := F X E (A.under (.builtin "type.__call__" ⟨.ref (He.ga X.K c) :: us, []⟩)) pins _ σ _ _ (.ref (s.heap.objs.size + 1) :: us) (.ref (s.heap.objs.size + 1) :: vs) rfl rfl rfl rfl rfl (hr.make _ us []) (by
    rw [← hfr]
    first | rfl | simp [Around.under, Code.envs, Code.isFrame, pushEnvs]) (make_guards hgd) hx I2 (.cons rfl r) (by simp [hl]) hq
  refine codeAny_mono q fun r s' hq' => ?_
  cases r with
  | error e => exact hq'
  | ok fl =>
    cases fl with
    | ret u =>
      obtain ⟨v, H', I3, rv, ev, q3⟩ := hq'
      subst ev
      exact ⟨rv, ⟨V.ref (s.heap.objs.size + 1), H', I3, rfl, q3⟩⟩
    | next => exact False.elim hq'
    | brk => exact False.elim hq'
    | cont => exact False.elim hq'
end
end MP

end
-- MPJ
section
/-! MPJ: the tables hold. -/
namespace MP
open PySem L2 PySem.Spec PyProof.Rows
def bnames : List Str := ["len", "abs", "int", "max", "min", "sum", "all", "any", "tuple", "list", "sorted", "repr", "isinstance", "range", "enumerate", "str", "bool", "dict"]
section
variable {P : Program} {w : World} {K : PySem.W.Frag} {mg : Str → Option Value} {base : Heap} {k : Nat} {N : List Str} {sv : Sv} {X : Cx} {Wx : WX}
theorem b_fun {id : String} {f : List D → Option Ou} (hc : CallR X (.builtin id) (rP K f)) {x : Str} (hg : Gl X x) (hm : X.mg x = none) (hv : bootBuiltins x = some (.builtin id)) (hn : x ≠ "__name__") (hd : (x == ("__debug__" : Str)) = false) {e : Expr} {es : List Expr} (hs : (e :: es).all notStar = true) {as : Ta} (h : PEs X K Wx (e :: es) as) {p pos : Pos} :
    PE X (.Call (.Name x p) (e :: es) [] pos) (den K Wx (.prim f as)) := by
  have h2 : es.all notStar = true := by simp only [List.all_cons, Bool.and_eq_true] at hs; exact hs.2
  have h1 : notStar e = true := by simp only [List.all_cons, Bool.and_eq_true] at hs; exact hs.1
  exact PE.imp (pe_callB hc hg hm hv (h.pa hs) hn hd (star_cons h1) (star_any h2)) fun σ H Q h => den_prim h
theorem b_typ {T : String} {f : List D → Option Ou} (hc : CallR X (.type T) (rP K f)) {x : Str} (hg : Gl X x) (hm : X.mg x = none) (hv : bootBuiltins x = some (.type T)) (hn : x ≠ "__name__") (hd : (x == ("__debug__" : Str)) = false) {e : Expr} {es : List Expr} (hs : (e :: es).all notStar = true) {as : Ta} (h : PEs X K Wx (e :: es) as) {p pos : Pos} :
    PE X (.Call (.Name x p) (e :: es) [] pos) (den K Wx (.prim f as)) := by
  have h2 : es.all notStar = true := by simp only [List.all_cons, Bool.and_eq_true] at hs; exact hs.2
  have h1 : notStar e = true := by simp only [List.all_cons, Bool.and_eq_true] at hs; exact hs.1
  exact PE.imp (pe_callTy hc hg hm hv (h.pa hs) hn hd (star_cons h1) (star_any h2)) fun σ H Q h => den_prim h
theorem sBlt_ok (C : Cv P w K mg base k N sv X Wx) (hb : ∀ x ∈ bnames, mg x = none) {x : Str} {f : List D → Option Ou} (hf : sBlt x = some f) (hg : glB sv.sc x = true) {e : Expr} {es : List Expr} (hs : (e :: es).all notStar = true) {as : Ta} (h : PEs X K Wx (e :: es) as) {p pos : Pos} :
    PE X (.Call (.Name x p) (e :: es) [] pos) (den K Wx (.prim f as)) := by
  have hg' : Gl X x := glB_ok (by rw [C.sc]; exact hg)
  have hm : ∀ y ∈ bnames, X.mg y = none := fun y hy => by rw [C.m]; exact hb y hy
  have kk := C.kk
  unfold sBlt at hf
  split at hf
  · rename_i q; subst q; cases hf
    exact b_fun (c_len kk) hg' (hm _ (by decide +kernel)) boot_len (by decide +kernel) (by decide +kernel) hs h
  split at hf
  · rename_i q; subst q; cases hf
    exact b_fun (c_abs kk) hg' (hm _ (by decide +kernel)) boot_abs (by decide +kernel) (by decide +kernel) hs h
  split at hf
  · rename_i q; subst q; cases hf
    exact b_typ (c_int kk) hg' (hm _ (by decide +kernel)) boot_int (by decide +kernel) (by decide +kernel) hs h
  split at hf
  · rename_i q; subst q; cases hf
    exact b_fun (c_max kk C.calm) hg' (hm _ (by decide +kernel)) boot_max (by decide +kernel) (by decide +kernel) hs h
  split at hf
  · rename_i q; subst q; cases hf
    exact b_fun (c_min kk C.calm) hg' (hm _ (by decide +kernel)) boot_min (by decide +kernel) (by decide +kernel) hs h
  split at hf
  · rename_i q; subst q; cases hf
    exact b_fun (c_sum kk C.calm) hg' (hm _ (by decide +kernel)) boot_sum (by decide +kernel) (by decide +kernel) hs h
  split at hf
  · rename_i q; subst q; cases hf
    exact b_fun (c_all kk C.calm) hg' (hm _ (by decide +kernel)) boot_all (by decide +kernel) (by decide +kernel) hs h
  split at hf
  · rename_i q; subst q; cases hf
    exact b_fun (c_any kk C.calm) hg' (hm _ (by decide +kernel)) boot_any (by decide +kernel) (by decide +kernel) hs h
  split at hf
  · rename_i q; subst q; cases hf
    exact b_typ (c_tup kk) hg' (hm _ (by decide +kernel)) boot_tuple (by decide +kernel) (by decide +kernel) hs h
  split at hf
  · rename_i q; subst q; cases hf
    exact b_typ (c_lst kk) hg' (hm _ (by decide +kernel)) boot_list (by decide +kernel) (by decide +kernel) hs h
  split at hf
  · rename_i q; subst q; cases hf
    exact b_fun (c_srt kk) hg' (hm _ (by decide +kernel)) boot_sorted (by decide +kernel) (by decide +kernel) hs h
  split at hf
  · rename_i q; subst q; cases hf
    exact b_fun (c_repr kk C.gd (by have := C.room.un; omega)) hg' (hm _ (by decide +kernel)) boot_repr (by decide +kernel) (by decide +kernel) hs h
  · cases hf
theorem rP_op2 {f : List D → Option Ou} {a b : Expr} {as : Ta} {r : R2} (h : PEs X K Wx [a, b] as) (go : ∀ t u, PE X a (den K Wx t) → PE X b (den K Wx u) → PE X e0 (tOp (fun x y => rP K f [x, y]) (den K Wx t) (den K Wx u))) : PE X e0 (den K Wx (.prim f as)) := by
  cases h with | cons h1 h2 =>
  cases h2 with | cons h2 h3 =>
  cases h3
  exact PE.imp (go _ _ h1 h2) fun σ H Q h => rP_op h
theorem tyOfName_ok {x : Str} {t : String} (h : tyOfName x = some t) : t ∈ tyL ∧ bootBuiltins x = some (.type t) ∧ x ∈ bnames ∧ x ≠ "__name__" ∧ (x == ("__debug__" : Str)) = false := by
  unfold tyOfName at h
  split at h
  · rename_i q; subst q; cases h; exact ⟨by decide +kernel, boot_int, by decide +kernel, by decide +kernel, by decide +kernel⟩
  split at h
  · rename_i q; subst q; cases h; exact ⟨by decide +kernel, boot_str, by decide +kernel, by decide +kernel, by decide +kernel⟩
  split at h
  · rename_i q; subst q; cases h; exact ⟨by decide +kernel, boot_bool, by decide +kernel, by decide +kernel, by decide +kernel⟩
  split at h
  · rename_i q; subst q; cases h; exact ⟨by decide +kernel, boot_tuple, by decide +kernel, by decide +kernel, by decide +kernel⟩
  split at h
  · rename_i q; subst q; cases h; exact ⟨by decide +kernel, boot_list, by decide +kernel, by decide +kernel, by decide +kernel⟩
  split at h
  · rename_i q; subst q; cases h; exact ⟨by decide +kernel, boot_dict, by decide +kernel, by decide +kernel, by decide +kernel⟩
  · cases h
theorem rP_cons {f : List D → Option Ou} {t : Tm} {r : Ta} {σ : L2.St} {H : Hp} {Q : VK} (h : den K Wx (.prim f (.cons t r)) σ H Q) : den K Wx t σ H fun x H1 => denA K Wx r σ H1 fun vs H2 => rP K f (x :: vs) H2 Q := denA_cons (den_prim h)
theorem top_cons {W H : Hp} {x : V} {vs : List V} {ds : List D} (h : TopA K W H (x :: vs) ds) : ∃ d r, ds = d :: r ∧ Top K W H x d ∧ TopA K W H vs r := by
  cases h with | cons a b => exact ⟨_, _, rfl, a, b⟩
theorem den_idI {t : Tm} {σ : L2.St} {H : Hp} {Q : VK} (h : den K Wx (.prim pIdI (.cons t .nil)) σ H Q) : den K Wx t σ H fun x H1 => ∃ i, x = .int i ∧ Q (.int i) H1 := by
  refine den_mono (rP_cons h) fun x H1 y => ?_
  obtain ⟨W, ds, o, l, tp, e, k1⟩ := denA_nil y
  obtain ⟨d, r, rfl, t1, t2⟩ := top_cons tp
  cases t2
  cases d <;> first | (simp [pIdI] at e; done) | skip
  have := t1.int
  subst this
  cases e
  exact ⟨_, rfl, k1 _ W H1 (PSt.refl l) (.dat (.int _))⟩
theorem slice_ok (C : Cv P w K mg base k N sv X Wx) {a : Expr} {lo hi : Option Expr} {p2 pos : Pos} {as : Ta} (h : PEs X K Wx (a :: (lo.toList ++ hi.toList)) as) : PE X (.Subscript a (.Slice lo hi none p2) pos) (den K Wx (.prim (pSl lo.isSome hi.isSome) (wrap2 as))) := by
  have kk := C.kk
  subst kk
  cases h with | cons h1 h2 =>
  rename_i ta ra
  cases lo with
  | none =>
    cases hi with
    | none =>
      cases h2
      refine PE.imp (pe_slice sl_all h1 po_none po_none) fun σ H Q z => ?_
      refine den_mono (rP_cons z) fun x H1 y => ?_
      obtain ⟨W, ds, o, l, tp, e, k1⟩ := denA_nil y
      obtain ⟨d, r, rfl, t1, t2⟩ := top_cons tp
      cases t2
      exact cut_ok l t1 e k1
    | some b =>
      cases h2 with | cons h2 h3 =>
      cases h3
      refine PE.imp (pe_slice sl_all h1 po_none (po_some h2)) fun σ H Q z => ?_
      refine den_mono (rP_cons z) fun x H1 y => ?_
      show den X.K Wx _ σ H1 (fun x2 H2 => ∃ i, x2 = .int i ∧ rSlAll X.K x none (some i) H2 Q)
      refine den_mono (denA_cons y) fun x2 H2 y2 => ?_
      obtain ⟨W, ds, o, l, tp, e, k1⟩ := denA_nil y2
      obtain ⟨d, r, rfl, t1, tq⟩ := top_cons tp
      obtain ⟨d2, r2, rfl, t2, t3⟩ := top_cons tq
      cases t3
      cases d2 <;> first | (simp [pSl] at e; done) | skip
      have := t2.int
      subst this
      exact ⟨_, rfl, cut_ok l t1 e k1⟩
  | some b0 =>
    cases hi with
    | none =>
      cases h2 with | cons h2 h3 =>
      cases h3
      refine PE.imp (pe_slice sl_all h1 (po_some h2) po_none) fun σ H Q z => ?_
      refine den_mono (rP_cons z) fun x H1 y => ?_
      refine den_mono (denA_cons y) fun x2 H2 y2 => ?_
      obtain ⟨W, ds, o, l, tp, e, k1⟩ := denA_nil y2
      obtain ⟨d, r, rfl, t1, tq⟩ := top_cons tp
      obtain ⟨d2, r2, rfl, t2, t3⟩ := top_cons tq
      cases t3
      cases d2 <;> first | (simp [pSl] at e; done) | skip
      have := t2.int
      subst this
      exact ⟨_, rfl, cut_ok l t1 e k1⟩
    | some b =>
      cases h2 with | cons h2 h3 =>
      cases h3 with | cons h3 h4 =>
      cases h4
      refine PE.imp (pe_slice sl_all h1 (po_some h2) (po_some h3)) fun σ H Q z => ?_
      refine den_mono (rP_cons z) fun x H1 y => ?_
      refine den_mono (den_idI (denA_cons y)) fun x2 H2 y2 => ?_
      obtain ⟨i, rfl, y2⟩ := y2
      refine ⟨i, rfl, ?_⟩
      refine den_mono (denA_cons y2) fun x3 H3 y3 => ?_
      obtain ⟨W, ds, o, l, tp, e, k1⟩ := denA_nil y3
      obtain ⟨d, r, rfl, t1, tq⟩ := top_cons tp
      obtain ⟨d2, r2, rfl, t2, tr⟩ := top_cons tq
      obtain ⟨d3, r3, rfl, t3, t4⟩ := top_cons tr
      cases t4
      cases d3 <;> first | (simp [pSl] at e; done) | skip
      cases d2 <;> first | (simp [pSl] at e; done) | skip
      have := t3.int
      subst this
      have := t2.int
      cases this
      exact ⟨_, rfl, cut_ok l t1 e k1⟩
theorem disp_ok {es : List Expr} {e0 : Expr} {as : Ta} {f : List D → Option Ou} {t : TA → TE} (hs : es.all notStar = true) (h : PEs X K Wx es as) (go : ∀ ta, PA X es ta → PE X e0 (t ta))
    (im : ∀ (ta : TA) σ H Q, ta σ H (fun vs H2 => rK K f vs H2 Q) → (∀ (Q Q' : List V → Hp → Prop), ta σ H Q → (∀ v H', Q v H' → Q' v H') → ta σ H Q') → t ta σ H Q) : PE X e0 (den K Wx (.mk f as)) :=
  PE.imp (go _ (h.pa hs)) fun σ H Q z => im _ σ H Q (den_mk z) fun Q Q' a b => denA_mono a b
end
end MP

end
-- MPW
section
/-! MPW: dicts, read. -/
namespace MP
open PySem L2 PySem.Spec PyProof.Rows
def valD : List D → List D → D → Option D
  | k0 :: ks, v :: vs, k => if kEq k0 k = true then some v else valD ks vs k
  | _, _, _ => none
def isTupB : D → Bool
  | .tup _ => true
  | _ => false
/-- tuples that can be keys -/
def tkey : D → Bool
  | .tup (.int _ :: r) => (k1s r).isSome
  | .tup (.str _ :: r) => (k1s r).isSome && decide (r.length < 3)
  | _ => false
def askD (ks : List D) (k : D) : Bool := (kK k && ks.all kK) || (tkey k && ks.all isTupB)
/-- things that no call can change -/
def imm : D → Bool
  | .lst _ => false
  | .dct _ _ => false
  | .obj _ _ _ => false
  | _ => true
def pDIx : List D → Option Ou
  | [.dct ks vs, k] => if askD ks k = true then (valD ks vs k).map .dat else none
  | _ => none
def pDIn (neg : Bool) : List D → Option Ou
  | [k, .dct ks vs] => if askD ks k = true then some (.dat (.bl (if neg then !(valD ks vs k).isSome else (valD ks vs k).isSome))) else none
  | _ => none
def pDGet : List D → Option Ou
  | [.dct ks vs, k] => if askD ks k = true then some (.dat ((valD ks vs k).getD .non)) else none
  | [.dct ks vs, k, d] => if askD ks k = true ∧ imm d = true then some (.dat ((valD ks vs k).getD d)) else none
  | _ => none
def isDct : D → Bool
  | .dct _ _ => true
  | _ => false
inductive ODr (K : PySem.W.Frag) (W : Hp) : Option V → Option D → Prop
  | no : ODr K W none none
  | so {v : V} {d : D} : Dr K W v d → ODr K W (some v) (some d)
theorem k1_kD (k : Key) : k1 (kD k) = some k := by cases k <;> rfl
theorem k1s_kD : ∀ ks : List Key, k1s (ks.map kD) = some ks
  | [] => rfl
  | k :: ks => by simp [k1s, k1_kD, k1s_kD ks]
theorem dKey_kD (k : Key) : dKey (kD k) = some (.inl k) := by cases k <;> rfl
theorem dKey_tup (ks : List Key) : dKey (.tup (ks.map kD)) = some (.inr ks) := by simp [dKey, k1s_kD]
theorem kEq_k {k0 k : Key} {d : D} (h : dKey d = some (.inl k)) : kEq (kD k0) d = decide (k0 = k) := by
  unfold kEq
  rw [dKey_kD, h]
  by_cases e : k0 = k
  · subst e; simp
  · have : ¬ (Sum.inl k0 : Key ⊕ List Key) = Sum.inl k := fun z => e (Sum.inl.inj z)
    simp [e, this]
theorem kEq_t {k0 k : List Key} {d : D} (h : dKey d = some (.inr k)) : kEq (.tup (k0.map kD)) d = decide (k0 = k) := by
  unfold kEq
  rw [dKey_tup, h]
  by_cases e : k0 = k
  · subst e; simp
  · have : ¬ (Sum.inr k0 : Key ⊕ List Key) = Sum.inr k := fun z => e (Sum.inr.inj z)
    simp [e, this]
theorem valV_cons {κ : Type} [DecidableEq κ] (k0 k : κ) (v : V) (r : List (κ × V)) : valV ((k0, v) :: r) k = if k0 = k then some v else valV r k := by
  unfold valV
  rw [List.find?_cons]
  by_cases e : k0 = k
  · simp [e]
  · simp [e]
section
variable {K : PySem.W.Frag} {W H : Hp}
theorem val_k {k : Key} {d : D} (h : dKey d = some (.inl k)) : ∀ {kvs : List (Key × V)} {vs : List D}, DrA K W (kvs.map (·.2)) vs → ODr K W (valV kvs k) (valD (kvs.map fun p => kD p.1) vs d)
  | [], _, r => by cases r; exact .no
  | (k0, v) :: kvs, vs, r => by
    cases r with | cons h1 h2 =>
    rw [valV_cons]
    simp only [List.map_cons, valD, kEq_k h, decide_eq_true_eq]
    split
    · exact .so h1
    · exact val_k h h2
theorem val_t {k : List Key} {d : D} (h : dKey d = some (.inr k)) : ∀ {kvs : List (List Key × V)} {vs : List D}, DrA K W (kvs.map (·.2)) vs → ODr K W (valV kvs k) (valD (kvs.map fun p => D.tup (p.1.map kD)) vs d)
  | [], _, r => by cases r; exact .no
  | (k0, v) :: kvs, vs, r => by
    cases r with | cons h1 h2 =>
    rw [valV_cons]
    simp only [List.map_cons, valD, kEq_t h, decide_eq_true_eq]
    split
    · exact .so h1
    · exact val_t h h2
theorem kK_key {d : D} {x : V} (h : kK d = true) (t : Top K W H x d) : ∃ k : Key, dKey d = some (.inl k) ∧ x = kV k := by
  cases d with
  | int i =>
    cases t with
    | dat t => cases t; exact ⟨.inl i, rfl, rfl⟩
    | mt t => cases t
  | str y =>
    cases t with
    | dat t => cases t; exact ⟨.inr y, rfl, rfl⟩
    | mt t => cases t
  | _ => cases h
theorem k1s_vals : ∀ {ds : List D} {ks : List Key} {vs : List V}, k1s ds = some ks → DrA K W vs ds → vs = ks.map kV
  | [], ks, _, h, .nil => by cases h; rfl
  | d :: ds, ks, _, h, .cons (v := v) h1 h2 => by
    unfold k1s at h
    cases e1 : k1 d with
    | none => rw [e1] at h; cases h
    | some k =>
      cases e2 : k1s ds with
      | none => rw [e1, e2] at h; cases h
      | some kk =>
        rw [e1, e2] at h
        cases h
        have := k1s_vals e2 h2
        subst this
        cases d with
        | int i => cases e1; cases h1; rfl
        | str y => cases e1; cases h1; rfl
        | _ => cases e1
theorem tkey_key {d : D} {x : V} (l : Le W H) (h : tkey d = true) (t : Top K W H x d) : ∃ (k : List Key) (b : Addr), dKey d = some (.inr k) ∧ x = .ref b ∧ H b = some (.tup (k.map kV)) := by
  cases d with
  | tup xs =>
    cases t with
    | mt t => cases t
    | dat t =>
      cases t with
      | tup ha r =>
        have go : ∀ ks : List Key, k1s xs = some ks → (∀ vs, vs = ks.map kV → kOk vs = false) → ∃ (k : List Key) (b : Addr), dKey (.tup xs) = some (.inr k) ∧ V.ref _ = .ref b ∧ H b = some (.tup (k.map kV)) := fun ks e n => by
          have e2 := k1s_vals e r
          rcases ha with ha | ⟨hk, _⟩
          · exact ⟨ks, _, by simp [dKey, e], rfl, by rw [← e2]; exact (l _ _ ha).tup⟩
          · rw [n _ e2] at hk; cases hk
        cases xs with
        | nil => simp [tkey] at h
        | cons d0 r0 =>
          cases d0 with
          | int i =>
            simp only [tkey] at h
            cases q : k1s r0 with
            | none => rw [q] at h; cases h
            | some kk => exact go (.inl i :: kk) (by simp [k1s, k1, q]) fun vs e => by subst e; rfl
          | str y =>
            simp only [tkey, Bool.and_eq_true, decide_eq_true_eq] at h
            cases q : k1s r0 with
            | none => rw [q] at h; cases h.1
            | some kk =>
              refine go (.inr y :: kk) (by simp [k1s, k1, q]) fun vs e => ?_
              subst e
              have len : ∀ {ds : List D} {ks : List Key}, k1s ds = some ks → ks.length = ds.length := fun {ds} => by
                induction ds with
                | nil => intro ks h; cases h; rfl
                | cons d ds ih =>
                  intro ks h
                  unfold k1s at h
                  cases e1 : k1 d with
                  | none => rw [e1] at h; cases h
                  | some k =>
                    cases e2 : k1s ds with
                    | none => rw [e1, e2] at h; cases h
                    | some kk => rw [e1, e2] at h; cases h; simp [ih e2]
              have := len q
              simp [kOk, kV]
              omega
          | _ => simp [tkey] at h
  | _ => simp [tkey] at h
theorem Top.dct {x : V} {ks vs : List D} (l : Le W H) (t : Top K W H x (.dct ks vs)) : ∃ a, x = .ref a ∧ ((∃ kvs, Rd H a (.dK kvs) ∧ ks = kvs.map (fun p => kD p.1) ∧ DrA K W (kvs.map (·.2)) vs) ∨
    ∃ kvs : List (List Key × V), kvs ≠ [] ∧ Rd H a (.dT kvs) ∧ ks = kvs.map (fun p => D.tup (p.1.map kD)) ∧ DrA K W (kvs.map (·.2)) vs) := by
  cases t with
  | dat h =>
    generalize hks : ks = kk at h
    cases h with
    | dK h r => exact ⟨_, rfl, .inl ⟨_, l.rd h, rfl, r⟩⟩
    | dT n h r => exact ⟨_, rfl, .inr ⟨_, n, l.rd h, rfl, r⟩⟩
  | mt h =>
    generalize hks : ks = kk at h
    cases h with
    | dK h r => exact ⟨_, rfl, .inl ⟨_, .inl h, rfl, r⟩⟩
    | dT n h r => exact ⟨_, rfl, .inr ⟨_, n, .inl h, rfl, r⟩⟩
/-- what is asked of a dict -/
theorem Top.ask {x y : V} {ks vs : List D} {d : D} (l : Le W H) (t : Top K W H x (.dct ks vs)) (ty : Top K W H y d) (ha : askD ks d = true) :
    ∃ a, x = .ref a ∧ ((∃ r, DGet H a y r ∧ ODr K W r (valD ks vs d)) ∨ (valD ks vs d = none ∧ Rd H a (.dK []) ∧ ∃ (k : List Key) (b : Addr), y = .ref b ∧ H b = some (.tup (k.map kV)))) := by
  obtain ⟨a, rfl, tt⟩ := t.dct l
  refine ⟨a, rfl, ?_⟩
  unfold askD at ha
  rw [Bool.or_eq_true, Bool.and_eq_true, Bool.and_eq_true] at ha
  rcases ha with ⟨h1, h2⟩ | ⟨h1, h2⟩
  · obtain ⟨k, e1, rfl⟩ := kK_key h1 ty
    rcases tt with ⟨kvs, rd, rfl, r⟩ | ⟨kvs, n, rd, rfl, r⟩
    · exact .inl ⟨_, .inl ⟨kvs, k, rd, rfl, rfl⟩, val_k e1 r⟩
    · cases kvs with
      | nil => exact absurd rfl n
      | cons p q => simp [kK] at h2
  · obtain ⟨k, b, e1, rfl, hb⟩ := tkey_key l h1 ty
    rcases tt with ⟨kvs, rd, rfl, r⟩ | ⟨kvs, n, rd, rfl, r⟩
    · cases kvs with
      | nil => cases r; exact .inr ⟨rfl, rd, k, b, rfl, hb⟩
      | cons p q =>
        obtain ⟨k0, v0⟩ := p
        cases k0 <;> simp [isTupB, kD] at h2
    · exact .inl ⟨_, .inr ⟨kvs, k, b, rd, rfl, hb, rfl⟩, val_t e1 r⟩
end
section
variable {X : Cx} {pins : List (Addr × Obj)} {σ : L2.St} {H : Hp} {s : Shared} {a b : Addr} {k : List Key} {A : Around} {E : Value → Shared → Prop}
theorem emptyH {P : Program} {w : World} {h : Heap} (x : ObjOk P w H h a (.dK [])) : h.DictOfH (tupleKind (mixKind P w)) a [] ∧ (a == sysModules) = false := by
  obtain ⟨_, hd, vs, kv, o, es, ep, h1, h2, h3, _, pr, _⟩ := x
  cases kv
  have : es.toList = [] := by cases q : es.toList with
    | nil => rfl
    | cons e r => rw [q] at pr; cases pr
  exact ⟨⟨o, es, ep, h1, h2, h3, by simpa using this, by simp, by simp⟩, hd⟩
theorem e_in {Q : Value → Shared → Prop} (hu : A.units + 1 < cLine) (I : Inv X pins σ H s) (rd : Rd H a (.dK [])) (eb : H b = some (.tup (k.map kV))) (h : ∀ s', Inv X pins σ H s' → Q (.bool false) s') : wpAny (model X.prog X.w) A (compareOp .In (.ref b) (.ref a)) Q E s := by
  obtain ⟨dd, hd⟩ := emptyH (rd.ok I.hok)
  exact wpAny_in_heap (tupleKind_room_in1 hu) (key_of I.hok eb) hd dd (h _ (I.tok _))
theorem e_notIn {Q : Value → Shared → Prop} (hu : A.units + 1 < cLine) (I : Inv X pins σ H s) (rd : Rd H a (.dK [])) (eb : H b = some (.tup (k.map kV))) (h : ∀ s', Inv X pins σ H s' → Q (.bool true) s') : wpAny (model X.prog X.w) A (compareOp .NotIn (.ref b) (.ref a)) Q E s := by
  obtain ⟨dd, hd⟩ := emptyH (rd.ok I.hok)
  exact wpAny_notIn_heap (tupleKind_room_in1 hu) (key_of I.hok eb) hd dd (h _ (I.tok _))
theorem e_get1 {Q : Value → Shared → Prop} (hu : A.units + 1 < cLine) (I : Inv X pins σ H s) (rd : Rd H a (.dK [])) (eb : H b = some (.tup (k.map kV))) (h : ∀ s', Inv X pins σ H s' → Q .none s') : wpAny (model X.prog X.w) A (call (.builtin "dict.get") [.ref a, .ref b]) Q E s := by
  obtain ⟨dd, hd⟩ := emptyH (rd.ok I.hok)
  exact call_meetsIn PySem.F.slot_dict_get dd.typeIs PySem.F.entry_dict_get (PySem.F.args_dict_get_2 _ _) (meetsH_dict_get (tupleKind (mixKind X.prog X.w)) a b hd) ⟨tupleKind_room_in1 hu, k, [], key_of I.hok eb, dd, h _ (I.tok _)⟩
theorem e_get2 {Q : Value → Shared → Prop} {r : Value} (hu : A.units + 1 < cLine) (I : Inv X pins σ H s) (rd : Rd H a (.dK [])) (eb : H b = some (.tup (k.map kV))) (h : ∀ s', Inv X pins σ H s' → Q r s') : wpAny (model X.prog X.w) A (call (.builtin "dict.get") [.ref a, .ref b, r]) Q E s := by
  obtain ⟨dd, hd⟩ := emptyH (rd.ok I.hok)
  exact call_meetsIn PySem.F.slot_dict_get dd.typeIs PySem.F.entry_dict_get (PySem.F.args_dict_get_3 _ _ _) (meetsH_dict_get_default (tupleKind (mixKind X.prog X.w)) a b hd r) ⟨tupleKind_room_in1 hu, k, [], key_of I.hok eb, dd, h _ (I.tok _)⟩
end
section
variable {P : Program} {w : World} {K : PySem.W.Frag} {mg : Str → Option Value} {base : Heap} {k : Nat} {N : List Str} {sv : Sv} {X : Cx} {Wx : WX}
theorem imm_dr {W H : Hp} {x : V} {d : D} (t : Top K W H x d) (h : imm d = true) : Dr K W x d := by
  cases t with
  | dat t => exact t
  | mt t => cases t <;> cases h
theorem ix_dict (C : Cv P w K mg base k N sv X Wx) : IxR X (fun x y => rP K pDIx [x, y]) := by
  have kk := C.kk
  subst kk
  intro value slice pins s σ H x y v u Q I rx ry h hs
  obtain ⟨W, ds, o, l, tp, e, k1⟩ := h
  obtain ⟨d, _, rfl, t1, tp⟩ := top_cons tp
  obtain ⟨d2, _, rfl, t2, tp⟩ := top_cons tp
  cases tp
  cases d with
  | dct ks vs =>
    simp only [pDIx] at e
    split at e
    rotate_left
    · cases e
    rename_i ha
    obtain ⟨a, rfl, q⟩ := t1.ask l t2 ha
    cases rx
    rcases q with ⟨r, g, z⟩ | ⟨z, _⟩
    · generalize valD ks vs d2 = o2 at e z
      cases z with
      | no => cases e
      | so hd =>
        cases e
        have ty := dict_typeIs I g
        have got : wpAny (model X.prog X.w) X.A (getItem (.ref a) u) (EP X pins σ Q) X.xe s := d_getItem (hu_of C.room) I g ry fun w' s3 I3 rw' => ⟨_, H, I3, rw', k1 _ W H (PSt.refl l) (.dat hd)⟩
        unfold subscriptTail
        refine wpAny_bind ?_
        rw [getitemInPython_of_ne ty.not_modules]
        refine wpAny_bind (wpAny_specialOf ty PySem.F.slot_dict_getitem.lookup ?_)
        have tail : wpAny (model X.prog X.w) X.A (subscripted slice false (.ref a) u) (fun r s3 => wpAny (model X.prog X.w) X.A (letTemporaryGo value (.ref a) r >>= fun _ => pure r) (EP X pins σ Q) X.xe s3) X.xe s := by
          rw [hs]
          exact wpAny_operating (wpAny_mono got (fun r s3 h3 => wpAny_bind (wpAny_letTemporaryGo (wpAny_pure h3))) fun _ _ x => x)
        first
        | exact wpAny_pure (wpAny_bind tail)
        | exact wpAny_pure tail
        | exact wpAny_bind tail
    · rw [z] at e; cases e
  | _ => simp [pDIx] at e
def orP (f g : List D → Option Ou) (ds : List D) : Option Ou := match f ds with
  | some o => some o
  | none => g ds
theorem rP_or {f g : List D → Option Ou} {vs : List V} {H : Hp} {Q : VK} (h : rP K (orP f g) vs H Q) : rP K f vs H Q ∨ rP K g vs H Q := by
  obtain ⟨W, ds, o, l, t, e, k1⟩ := h
  unfold orP at e
  cases q : f ds with
  | some o' => rw [q] at e; cases e; exact .inl ⟨W, ds, o, l, t, q, k1⟩
  | none => rw [q] at e; exact .inr ⟨W, ds, o, l, t, e, k1⟩
theorem call_or {c : Value} {f g : List D → Option Ou} (h : CallR X c (rP K f)) (h' : CallR X c (rP K g)) : CallR X c (rP K (orP f g)) := by
  intro pins s σ H xs us Q I r q
  rcases rP_or q with q | q
  · exact h pins s σ H xs us Q I r q
  · exact h' pins s σ H xs us Q I r q
theorem op_or {c : Value → Value → Sem Value} {f g : List D → Option Ou} (h : OpR X c (fun x y => rP K f [x, y])) (h' : OpR X c (fun x y => rP K g [x, y])) : OpR X c (fun x y => rP K (orP f g) [x, y]) := by
  intro pins s σ H x y v u Q I rx ry q
  rcases rP_or q with q | q
  · exact h pins s σ H x y v u Q I rx ry q
  · exact h' pins s σ H x y v u Q I rx ry q
theorem ix_or {f g : List D → Option Ou} (h : IxR X (fun x y => rP K f [x, y])) (h' : IxR X (fun x y => rP K g [x, y])) : IxR X (fun x y => rP K (orP f g) [x, y]) := by
  intro value slice pins s σ H x y v u Q I rx ry q hs
  rcases rP_or q with q | q
  · exact h value slice pins s σ H x y v u Q I rx ry q hs
  · exact h' value slice pins s σ H x y v u Q I rx ry q hs
theorem in_dict (C : Cv P w K mg base k N sv X Wx) (neg : Bool) : OpR X (compareOp (if neg then .NotIn else .In)) (fun x y => rP K (pDIn neg) [x, y]) := by
  have kk := C.kk
  subst kk
  intro pins s σ H x y v u Q I rx ry h
  obtain ⟨W, ds, o, l, tp, e, k1⟩ := h
  obtain ⟨d, _, rfl, t1, tp⟩ := top_cons tp
  obtain ⟨d2, _, rfl, t2, tp⟩ := top_cons tp
  cases tp
  cases d2 with
  | dct ks vs =>
    simp only [pDIn] at e
    split at e
    rotate_left
    · cases e
    rename_i ha
    obtain ⟨a, rfl, q⟩ := t2.ask l t1 ha
    cases ry
    cases e
    have fin : ∀ b, b = (if neg then !(valD ks vs d).isSome else (valD ks vs d).isSome) → ∀ s', Inv X pins σ H s' → EP X pins σ Q (.bool b) s' := fun b eb s' I' => by
      subst eb
      exact ⟨.bl _, H, I', rfl, k1 _ W H (PSt.refl l) (.dat (.bl _))⟩
    have hu := hu_of C.room
    rcases q with ⟨r, g, z⟩ | ⟨z, rd, kk, b, rfl, hb⟩
    · have es : r.isSome = (valD ks vs d).isSome := by
        generalize valD ks vs d = o2 at z
        cases z <;> rfl
      cases neg with
      | false => exact d_in hu I g rx fun s' I' => fin _ (by rw [es]; rfl) s' I'
      | true => exact d_notIn hu I g rx fun s' I' => fin _ (by rw [es]; rfl) s' I'
    · cases rx
      rw [z] at fin
      cases neg with
      | false => exact e_in hu I rd hb fun s' I' => fin _ rfl s' I'
      | true => exact e_notIn hu I rd hb fun s' I' => fin _ rfl s' I'
  | _ => simp [pDIn] at e
/-- the type of what is at hand -/
def KdOk (X : Cx) (K : PySem.W.Frag) (kd : D → Bool) (T : String) : Prop := ∀ {pins : List (Addr × Obj)} {s : Shared} {σ : L2.St} {H W : Hp} {x : V} {v : Value} {d : D}, Inv X pins σ H s → RelV x v → Le W H → Top K W H x d → kd d = true →
  s.TypeIs v T ∧ ∀ b, v = .ref b → ∃ ob, s.heap.get? b = some ob ∧ ob.dict = none
theorem kd_dct (hk : X.K = K) : KdOk X K isDct "dict" := fun {pins s σ H W x v d} I r l tp e => by
  cases d with
  | dct ks vs =>
    obtain ⟨a, rfl, q⟩ := tp.dct l
    cases r
    have z : IsD H a := by
      rcases q with ⟨kvs, rd, _⟩ | ⟨kvs, _, rd, _⟩
      · exact .inl ⟨_, rd⟩
      · exact .inr ⟨_, rd⟩
    exact ⟨(isD_at I z).1, (isD_at I z).2.1⟩
  | _ => cases e
theorem kd_lst (hk : X.K = K) : KdOk X K isL "list" := fun {pins s σ H W x v d} I r l tp e => by
  cases d with
  | lst xs =>
    obtain ⟨a, vs, rfl, q, _⟩ := tp.lst l
    subst hk
    exact tyV_is I r (T := "list") (.inl ⟨rfl, _, q⟩)
  | _ => cases e
def isSt : D → Bool
  | .str _ => true
  | _ => false
theorem kd_str (hk : X.K = K) : KdOk X K isSt "str" := fun {pins s σ H W x v d} I r l tp e => by
  cases d with
  | str y =>
    have := tp.str
    subst this
    exact tyV_is I r (T := "str") rfl
  | _ => cases e
/-- a method of a built-in that changes nothing -/
theorem rcv_ok (hk : X.K = K) {T id : String} {name : Str} {kd : D → Bool} {f : List D → Option Ou} (pa : PlainAttrs T) (slot : PySem.Slot T name id) (hty : typeOf (.builtin id) = pure (.type "method_descriptor")) (hm : MtR X id (fun x xs => rP K f (x :: xs))) (hkd : KdOk X K kd T)
    {o : Expr} {es : List Expr} {t : Tm} {as : Ta} {apos pos : Pos} (hn : es.all notStar = true) (hl : es.length < 30) (hs : notSup o = true) (hline : (apos.endLine == pos.line) = true)
    (ho : PE X o (den K Wx t)) (ha : PEs X K Wx es as) : PE X (.Call (.Attribute o name apos) es [] pos) (den K Wx (.rcv kd f t as)) := by
  refine ⟨fun pins s σ H Q I h => ?_⟩
  have few : ((backTo pos (starEach es X.env)).all (fun x => !x.1) && (backToKw pos (keywordEach [] X.env)).all (fun x => x.1.isSome) && decide (es.length + ([] : List Keyword).length + (if ([] : List Keyword).isEmpty then 0 else 1) < 30)) = true := by
    rw [star_all hn]
    simp [keywordEach, backToKw, hl]
  refine wpAny_Call_method_late (sup_ok hs) few hline rfl (thn (ho.run pins s σ H _ I (den_rcv h)) fun v s1 ⟨x, H1, I1, r1, W, d, l, tp, kk, q1⟩ => ?_)
  obtain ⟨h1, h2⟩ := hkd I1 r1 l tp kk
  refine ⟨T, id, pa, slot, hty, h1, h2, ?_⟩
  cases es with
  | nil =>
    cases ha
    exact Calls.callWith_builtin rfl (PySem.evalArgs_none (hm pins s1 σ H1 x [] v [] Q I1 r1 .nil (denA_nil q1)))
  | cons e es =>
    have hn' : notStar e = true ∧ es.all notStar = true := by simpa [List.all_cons, Bool.and_eq_true] using hn
    have hA := (ha.pa hn).run pos pins s1 σ H1 _ I1 q1
    rw [star_cons hn'.1] at hA ⊢
    refine Calls.callWith_builtin (by show (false || (backTo pos (starEach es X.env)).any (·.1)) = false; rw [star_any hn'.2]; rfl) (Calls.evalArgs_plain ?_)
    exact thn hA fun us s2 ⟨vs, H2, I2, r2, q2⟩ => hm pins s2 σ H2 x vs v us Q I2 r1 r2 q2
theorem m_get (C : Cv P w K mg base k N sv X Wx) : MtR X "dict.get" (fun x xs => rP K pDGet (x :: xs)) := by
  have kk := C.kk
  subst kk
  have hu := hu_of C.room
  intro pins s σ H x xs v us Q I rx rv h
  obtain ⟨W, ds, o, l, tp, e, k1⟩ := h
  obtain ⟨d, dr, rfl, t1, tq⟩ := top_cons tp
  cases d with
  | dct ks vs =>
    cases tq with
    | nil => simp [pDGet] at e
    | @cons y ys d2 ds t2 tq =>
      cases tq with
      | nil =>
        simp only [pDGet] at e
        split at e
        rotate_left
        · cases e
        rename_i ha
        cases e
        obtain ⟨a, rfl, q⟩ := t1.ask l t2 ha
        cases rx
        obtain ⟨u, rfl, ry⟩ := Vals.one rv
        rcases q with ⟨r, g, z⟩ | ⟨z, rd, kk, b, rfl, hb⟩
        · refine d_get1 hu I g ry fun w' s' I' rw' => ⟨_, H, I', rw', k1 _ W H (PSt.refl l) (.dat ?_)⟩
          generalize valD ks vs d2 = o2 at z
          cases z with
          | no => exact .non
          | so hd => exact hd
        · cases ry
          rw [z] at k1
          exact e_get1 hu I rd hb fun s' I' => ⟨.non, H, I', rfl, k1 _ W H (PSt.refl l) (.dat .non)⟩
      | @cons y3 ys3 d3 ds3 t3 tq =>
        cases tq with
        | cons _ _ => simp [pDGet] at e
        | nil =>
          simp only [pDGet] at e
          split at e
          rotate_left
          · cases e
          rename_i ha
          cases e
          obtain ⟨a, rfl, q⟩ := t1.ask l t2 ha.1
          have d3' := imm_dr t3 ha.2
          cases rx
          obtain ⟨u, u3, rfl, ry, rz⟩ := vals2 rv
          rcases q with ⟨r, g, z⟩ | ⟨z, rd, kk, b, rfl, hb⟩
          · refine d_get2 hu I g ry rz fun w' s' I' rw' => ⟨_, H, I', rw', k1 _ W H (PSt.refl l) (.dat ?_)⟩
            generalize valD ks vs d2 = o2 at z
            cases z with
            | no => exact d3'
            | so hd => exact hd
          · cases ry
            rw [z] at k1
            exact e_get2 hu I rd hb fun s' I' => ⟨_, H, I', rz, k1 _ W H (PSt.refl l) (.dat d3')⟩
  | _ => simp [pDGet] at e
end
end MP

end
-- MPX
section
/-! MPX: dicts, written and walked. -/
namespace MP
open PySem L2 PySem.Spec PyProof.Rows
def stDc : D → D → D → Option D
  | .dct ks vs, k, v => if ks.length < LIM ∧ askD ks k = true then some (.dct (putD ks vs k v kEq).1 (putD ks vs k v kEq).2) else none
  | _, _, _ => none
def orT (f g : D → D → D → Option D) (a b c : D) : Option D := match f a b c with
  | some o => some o
  | none => g a b c
section
variable {K : PySem.W.Frag} {W H : Hp}
theorem MSt.of {a : Addr} {o o' : HO} {d' : D} (hw : W a = none) (l : Le W H) (ha : H a = some o) (m : MutAt K W (upd H a o') a d') : MSt K W H a d' W (upd H a o') :=
  ⟨Ex.refl _, fun b u e => by
    have ne : b ≠ a := fun z => by rw [z, hw] at e; cases e
    rcases l b u e with q | ⟨ob, q, t⟩
    · exact .inl (by rw [upd_ne ne]; exact q)
    · exact .inr ⟨ob, by rw [upd_ne ne]; exact q, t⟩, fun b u e n => by rw [upd_ne n]; exact e, m, hw, fun b e => .inl e⟩
theorem put_any {κ : Type} [DecidableEq κ] (f : κ → D) (k : κ) (d : D) (he : ∀ k0, kEq (f k0) d = decide (k0 = k)) : ∀ (kvs : List (κ × V)), ((kvs.map fun p => f p.1).any fun x => kEq x d) = (kvs.any fun kv => decide (kv.1 = k))
  | [] => rfl
  | p :: r => by simp only [List.map_cons, List.any_cons, he, put_any f k d he r]
theorem put_keys {κ : Type} [DecidableEq κ] (f : κ → D) (k : κ) (v : V) (d dv : D) (hd : f k = d) (he : ∀ k0, kEq (f k0) d = decide (k0 = k)) (kvs : List (κ × V)) (vs : List D) : (putK kvs k v).map (fun p => f p.1) = (putD (kvs.map fun p => f p.1) vs d dv kEq).1 := by
  unfold putK putD
  rw [put_any f k d he]
  split
  · rw [List.map_map]
    refine List.map_congr_left fun p _ => ?_
    show f (if p.1 = k then (p.1, v) else p).1 = f p.1
    split <;> rfl
  · simp [hd]
theorem zw {κ : Type} [DecidableEq κ] (f : κ → D) (k : κ) (v : V) (d dv : D) (hv : Dr K W v dv) (he : ∀ k0, kEq (f k0) d = decide (k0 = k)) : ∀ {kvs : List (κ × V)} {vs : List D}, DrA K W (kvs.map (·.2)) vs →
    DrA K W ((kvs.map fun kv => if kv.1 = k then (kv.1, v) else kv).map (·.2)) (List.zipWith (fun x y => if kEq x d = true then dv else y) (kvs.map fun p => f p.1) vs)
  | [], _, h => by cases h; exact .nil
  | p :: r, _, h => by
    cases h with | cons h1 h2 =>
    simp only [List.map_cons, List.zipWith_cons_cons, he, decide_eq_true_eq]
    refine .cons ?_ (zw f k v d dv hv he h2)
    by_cases e : p.1 = k
    · simp only [e, if_true]; exact hv
    · simp only [e, if_false]; exact h1
theorem put_vals {κ : Type} [DecidableEq κ] (f : κ → D) (k : κ) (v : V) (d dv : D) (hv : Dr K W v dv) (he : ∀ k0, kEq (f k0) d = decide (k0 = k)) {kvs : List (κ × V)} {vs : List D} (r : DrA K W (kvs.map (·.2)) vs) :
    DrA K W ((putK kvs k v).map (·.2)) (putD (kvs.map fun p => f p.1) vs d dv kEq).2 := by
  unfold putK putD
  rw [put_any f k d he]
  split
  · exact zw f k v d dv hv he r
  · rw [List.map_append]
    exact r.append (.cons hv .nil)
theorem dKey_k {d : D} {k : Key} (h : dKey d = some (.inl k)) : kD k = d := by
  cases d with
  | int i => cases h; rfl
  | str x => cases h; rfl
  | tup xs =>
    simp only [dKey] at h
    cases q : k1s xs with
    | none => rw [q] at h; cases h
    | some ks => rw [q] at h; cases h
  | _ => cases h
theorem k1s_D : ∀ {ds : List D} {ks : List Key}, k1s ds = some ks → ks.map kD = ds
  | [], ks, h => by cases h; rfl
  | d :: ds, ks, h => by
    unfold k1s at h
    cases e1 : k1 d with
    | none => rw [e1] at h; cases h
    | some k =>
      cases e2 : k1s ds with
      | none => rw [e1, e2] at h; cases h
      | some kk =>
        rw [e1, e2] at h
        cases h
        have : kD k = d := by
          cases d with
          | int i => cases e1; rfl
          | str y => cases e1; rfl
          | _ => cases e1
        simp [this, k1s_D e2]
theorem dKey_t {d : D} {k : List Key} (h : dKey d = some (.inr k)) : D.tup (k.map kD) = d := by
  cases d with
  | tup xs =>
    simp only [dKey] at h
    cases q : k1s xs with
    | none => rw [q] at h; cases h
    | some ks => rw [q] at h; cases h; rw [k1s_D q]
  | int i => cases h
  | str x => cases h
  | _ => cases h
theorem put_ne {κ : Type} [DecidableEq κ] {k : κ} {v : V} {kvs : List (κ × V)} : putK kvs k v ≠ [] := by
  unfold putK
  split
  · rename_i h
    cases kvs with
    | nil => cases h
    | cons p r => simp
  · simp
end
section
variable {P : Program} {w : World} {K : PySem.W.Frag} {mg : Str → Option Value} {base : Heap} {k : Nat} {N : List Str} {sv : Sv} {X : Cx} {Wx : WX}
theorem inv_empT {pins : List (Addr × Obj)} {σ : L2.St} {H : Hp} {s : Shared} {a : Addr} (I : Inv X pins σ H s) (h : H a = some (.dK [])) : Inv X pins σ (upd H a (.dT [])) s := by
  obtain ⟨⟨o, es, ep, h1, h2, h3, h4, _, h6⟩, hd⟩ := emptyH (I.hok a _ h)
  exact I.write (x := a) (e := a) (t' := s.toks) (h' := s.heap) (by rw [h]; exact True.intro) (.inl rfl) (fun b v _ q => q) ⟨o, h1⟩ ⟨Nat.zero_le _, hd, [], .nil, o, es, ep, h1, h2, h3, h4, h6⟩
theorem s_dct (C : Cv P w K mg base k N sv X Wx) : PSet X (rSt K stDc) := by
  have kk := C.kk
  subst kk
  have hu := hu_of C.room
  intro pins s σ H o i v ov iv u Q I ro ri rv h
  obtain ⟨a, W, d, dk, dv, d', rfl, hw, l, m, r1, r2, e, k1⟩ := h
  unfold stDc at e
  split at e
  rotate_left
  · cases e
  rename_i ks vs
  split at e
  rotate_left
  · cases e
  rename_i hc
  obtain ⟨hl, ha⟩ := hc
  cases e
  have go : ∀ H', DPut H a i v H' → MSt X.K W H a (.dct (putD ks vs dk dv kEq).1 (putD ks vs dk dv kEq).2) W H' → wpAny (model X.prog X.w) X.A (setItem ov iv u) (fun _ s' => ∃ H', Inv X pins σ H' s' ∧ Q H') X.xe s := fun H' g ms => by
    cases ro
    exact d_setItem hu I g ri rv fun s' I' => ⟨H', I', k1 W H' ms⟩
  unfold askD at ha
  rw [Bool.or_eq_true, Bool.and_eq_true, Bool.and_eq_true] at ha
  rcases ha with ⟨h1, h2⟩ | ⟨h1, h2⟩
  · obtain ⟨key, e1, rfl⟩ := kK_key h1 (Top.dat (H := H) r1)
    generalize hks : ks = kk at m
    cases m with
    | @dK kvs _ hm r =>
      subst hks
      have len : kvs.length < sizeLine := lim_lt (by simpa using hl)
      refine go _ (DPut.k hm len) (MSt.of hw l hm ?_)
      have z := MutAt.dK (K := X.K) (W := W) (a := a) (H := upd H a (.dK (putK kvs key v))) upd_same (put_vals kD key v dk dv r2 (fun k0 => kEq_k e1) r)
      rw [put_keys kD key v dk dv (dKey_k e1) (fun k0 => kEq_k e1) kvs vs] at z
      exact z
    | @dT kvs _ n hm r =>
      subst hks
      cases kvs with
      | nil => exact absurd rfl n
      | cons p q => simp [kK] at h2
  · obtain ⟨key, b, e1, rfl, hb⟩ := tkey_key l h1 (Top.dat (H := H) r1)
    generalize hks : ks = kk at m
    cases m with
    | @dK kvs _ hm r =>
      subst hks
      cases kvs with
      | cons p q => obtain ⟨k0, v0⟩ := p; cases k0 <;> simp [isTupB, kD] at h2
      | nil =>
        have I1 := inv_empT I hm
        have hb1 : upd H a (.dT []) b = some (.tup (key.map kV)) := by rw [upd_ne (ne_of hb hm nofun)]; exact hb
        cases ro
        cases ri
        refine d_setItem hu I1 (DPut.t (k := key) (b := b) (v := v) upd_same hb1 (by decide +kernel)) rfl rv fun s' I' => ⟨_, I', k1 W _ ?_⟩
        rw [upd_upd]
        refine MSt.of hw l hm ?_
        cases r
        have z := MutAt.dT (K := X.K) (W := W) (a := a) (kvs := [(key, v)]) (H := upd H a (.dT (putK [] key v))) (by simp) upd_same (.cons r2 .nil)
        rw [← dKey_t e1]
        exact z
    | @dT kvs _ n hm r =>
      subst hks
      have len : kvs.length < sizeLine := lim_lt (by simpa using hl)
      refine go _ (DPut.t hm hb len) (MSt.of hw l hm ?_)
      have z := MutAt.dT (K := X.K) (W := W) (a := a) (H := upd H a (.dT (putK kvs key v))) put_ne upd_same (put_vals (fun k0 => D.tup (k0.map kD)) key v dk dv r2 (fun k0 => kEq_t e1) r)
      rw [put_keys (fun k0 => D.tup (k0.map kD)) key v dk dv (dKey_t e1) (fun k0 => kEq_t e1) kvs vs] at z
      exact z
theorem set_or {f g : D → D → D → Option D} (h : PSet X (rSt K f)) (h' : PSet X (rSt K g)) : PSet X (rSt K (orT f g)) := by
  intro pins s σ H o i v ov iv u Q I ro ri rv q
  obtain ⟨a, W, d, dk, dv, d', e0, hw, l, m, r1, r2, e, k1⟩ := q
  unfold orT at e
  cases z : f d dk dv with
  | some o' => rw [z] at e; cases e; exact h pins s σ H o i v ov iv u Q I ro ri rv ⟨a, W, d, dk, dv, d', e0, hw, l, m, r1, r2, z, k1⟩
  | none => rw [z] at e; exact h' pins s σ H o i v ov iv u Q I ro ri rv ⟨a, W, d, dk, dv, d', e0, hw, l, m, r1, r2, e, k1⟩
end
end MP

end
-- MPY
section
/-! MPY: dicts walked. -/
namespace MP
open PySem L2 PySem.Spec PyProof.Rows
/-- a walked thing that is kept first -/
theorem denI_ess {K : PySem.W.Frag} {Wx : WX} {σ : L2.St} {H : Hp} {g : List D → Option (List D)} {t : Tm} {R : It → Hp → Prop} (h : denI K Wx g (.cons (.ess t) .nil) σ H R) :
    den K Wx t σ H fun x H1 => ∃ W M d xs, Le W H1 ∧ Dr K W x d ∧ (∀ a, M a → W a = none) ∧ g [d] = some xs ∧ ∀ J W2 H2, PSl W H1 W2 H2 → ItOk K W2 H2 M J xs → R J H2 := by
  obtain ⟨E, W, Γ, R0, h⟩ := h
  simp only [evA, ev] at h
  refine ⟨E, W, Γ, R0, (PoR.bind0 (PoR.bind0 h)).imp fun l c1 R1 S1 es h1 v V1 => ?_⟩
  obtain ⟨E1, W1, Γ1, σ1, H1⟩ := c1
  cases es
  obtain rfl : E1 = E := S1.ent
  dsimp only at h1
  cases ee : esc l Γ1 with
  | stuck => rw [ee] at h1; exact h1.elim
  | exn x Γ2 => exact (esc_ne ee).elim
  | ok d Γ2 =>
    rw [ee] at h1
    simp only [Rs.bind] at h1
    obtain ⟨W2, R2, S2, d2, x2, y2, m2⟩ := R1.esc S1 V1 ee
    obtain ⟨ds, xs, e1, e2, k⟩ := h1 W2 H1 R2 S2 W2 H1 R2 S2
    cases e1
    refine ⟨W2, _, d, xs, R2.le, d2, fun a ma => ?_, e2, k⟩
    obtain ⟨i, b, d', g', e', _⟩ := muL_mt ma
    obtain ⟨a', z1, z2, _⟩ := R2.mt i b d' g'
    rw [e'] at z1
    cases z1
    exact z2
/-- what an expression gives is locked, if it can be -/
def tLk (t : TE) : TE := fun σ H Q => t σ H fun x H1 => Q x H1 ∨ ∃ d u, H1 d = some u ∧ Mut (some u) ∧ ∀ od, Q x (upd H1 d (.frz od u))
theorem pe_lk {X : Cx} {e : Expr} {t : TE} (h : PE X e t) : PE X e (tLk t) := ⟨fun pins s σ H Q I w => thn (h.run pins s σ H _ I w) fun v s1 ⟨x, H1, I1, r, q⟩ => by
  rcases q with q | ⟨d, u, hd, mu, q⟩
  · exact ⟨x, H1, I1, r, q⟩
  · obtain ⟨od, I2⟩ := I1.lock hd mu
    exact ⟨x, _, I2, r, q od⟩⟩
/-- the pairs of a locked dict -/
def ItM (d : Addr) (o : Obj) (u : HO) (n : Nat) (KP : Hp → Nat → V → V → Prop) : It :=
  ⟨fun i H => H d = some (.frz o u) ∧ i < n, fun i H x H' => ∃ T y v, KP H i y v ∧ x = .ref T ∧ H T = none ∧ H' = upd H T (.tup [y, v]), fun i H => H d = some (.frz o u) ∧ n ≤ i⟩
def SrcM (X : Cx) (d : Addr) (o : Obj) (u : HO) (n : Nat) (KP : Hp → Nat → V → V → Prop) (es : Array DictEntry) (ep : Nat) : Prop :=
  ∀ (pins : List (Addr × Obj)) (σ : L2.St) (H : Hp) (s : Shared), Inv X pins σ H s → H d = some (.frz o u) → DT.Raw s.heap d es ep ∧ es.size = n ∧ ∀ i (h : i < es.size), ∃ y v, KP H i y v ∧ RelV y es[i].key ∧ RelV v es[i].val
theorem turn_M {P : Program} {w : World} {K : PySem.W.Frag} {elts : List Expr} {kq : Nat} {tpos : Pos} {d : Addr} {o : Obj} {u : HO} {n : Nat} {KP : Hp → Nat → V → V → Prop} {es : Array DictEntry} {ep : Nat} (it : Addr)
    (src : ∀ X : Cx, X.prog = P → X.w = w → X.K = K → SrcM X d o u n KP es ep) : Turn P w K (.Tuple elts kq tpos) (ItM d o u n KP) [it] it (fun i h => ∃ a b, IsItemIter h it d i n ep a b) where
  mem := by simp
  obj := fun i h st b hb => by
    obtain rfl : b = it := by simpa using hb
    obtain ⟨a, b, e⟩ := st
    exact ⟨_, e, nofun⟩
  keep := fun i h h' ⟨a, b, e⟩ k => ⟨a, b, k it (by simp) _ e⟩
  item := by
    intro X e1 e2 e3 hc i pins s σ H E I hf st hg
    have sr := src X e1 e2 e3
    subst e1 e2 e3
    obtain ⟨hd, hi⟩ := hg
    obtain ⟨raw, sz, ent⟩ := sr pins σ H s I hd
    subst sz
    obtain ⟨y, v, kp, ry, rv⟩ := ent i hi
    obtain ⟨a, b, he⟩ := st
    have below : it < s.heap.objs.size := Heap.lt_size he
    refine DT.nextI he raw hi fun h1 o1 t1 z1 k1 => ⟨_, rfl, ?_⟩
    refine wpAny_letOwnedTupleGo_items (s := { s with heap := h1 }) o1 fun h2 o2 same => ?_
    have t2 : h2.get? s.heap.objs.size = some { cls := .type "tuple", data := .seq #[es[i].key, es[i].val] } := (same.2 _ (Nat.ne_of_gt below)).trans t1
    have ok : ObjOk X.prog X.w (upd H s.heap.objs.size (.tup [y, v])) h2 s.heap.objs.size (.tup [y, v]) := ⟨show 2 ≤ sizeLine by decide +kernel, [es[i].key, es[i].val], .cons ry (.cons rv .nil), ⟨_, t2, rfl, _, rfl⟩⟩
    have I2 : Inv X pins σ (upd H s.heap.objs.size (.tup [y, v])) { s with heap := h2 } :=
      I.turnedNew (t' := s.toks) (ch := [it]) (fun c oc hb e => (same.2 c (by simpa using hb)).trans (k1 c oc (by simpa using hb) e)) hf (Nat.le_refl _) ok
    refine ⟨.ref s.heap.objs.size, _, I2, rfl, ⟨_, y, v, kp, rfl, I.hok.fresh (Nat.le_refl _), rfl⟩, ⟨_, _, o2⟩, fun c hc' => ?_⟩
    obtain rfl : c = it := by simpa using hc'
    rw [upd_ne (Nat.ne_of_lt below)]
    exact (hf c (by simp)).1
  done := by
    intro X e1 e2 e3 hc i pins s σ H E I hf st hg
    have sr := src X e1 e2 e3
    subst e1 e2 e3
    obtain ⟨hd, hi⟩ := hg
    obtain ⟨raw, sz, ent⟩ := sr pins σ H s I hd
    subst sz
    obtain ⟨a, b, he⟩ := st
    obtain ⟨g0, g1, g2, g3, g4, g5⟩ := hf it (by simp)
    exact DT.endI (I.ok.hd hc) he raw hi fun h1 eb => ⟨rfl, I.turned (t' := s.toks) (fun c oc hb e => eb c oc hb e) g0 g1 g3 g4 g5⟩
  self := fun A i s Q E ⟨_, _, e⟩ h => PySem.W.kcp_self e h
/-- the two kinds of dicts -/
def KPk (kvs : List (Key × V)) (_ : Hp) (i : Nat) (y v : V) : Prop := ∃ k, kvs[i]? = some (k, v) ∧ y = kV k
def KPt (kvs : List (List Key × V)) (H : Hp) (i : Nat) (y v : V) : Prop := ∃ k q, kvs[i]? = some (k, v) ∧ y = .ref q ∧ H q = some (.tup (k.map kV))
theorem src_k {X : Cx} {d : Addr} {o : Obj} {kvs : List (Key × V)} {es : Array DictEntry} {ep : Nat} (hod : o.data = .dict es ep) : SrcM X d o (.dK kvs) kvs.length (KPk kvs) es ep := fun pins σ H s I h => by
  obtain ⟨hg, hz, hs, vs, kv, o', es', ep', ho, hx, hdt, ks, pr, nd⟩ := I.hok d _ h
  rw [hg] at ho
  cases ho
  obtain ⟨rfl, rfl⟩ := dict_ep hod hdt
  have l1 := pr.length
  have l2 : kvs.length = vs.length := Paired.length kv
  rw [Array.length_toList] at l1
  refine ⟨⟨o, hg, hx, hdt⟩, by omega, fun i hi => ?_⟩
  have hk : i < kvs.length := by omega
  obtain ⟨u, hu, ru⟩ := kv_get (k := kvs[i].1) (v := kvs[i].2) kv (List.getElem?_eq_getElem hk)
  obtain ⟨hkey, hval⟩ := pr.get? (i := i) (e := es'[i]) (by rw [Array.getElem?_toList]; exact Array.getElem?_eq_getElem hi) hu
  exact ⟨kV kvs[i].1, kvs[i].2, ⟨kvs[i].1, List.getElem?_eq_getElem hk, rfl⟩, relV_key hkey, by rw [hval]; exact ru⟩
theorem paired_get {α β : Type} {F : α → β → Prop} : ∀ {l : List α} {m : List β} {i : Nat} {x : α}, Paired F l m → l[i]? = some x → ∃ y, m[i]? = some y ∧ F x y
  | _, _, _, _, .nil, e => by simp at e
  | _, _, 0, _, .cons h _, e => by simp at e; subst e; exact ⟨_, rfl, h⟩
  | _, _, i + 1, x, .cons _ r, e => by
    obtain ⟨y, h1, h2⟩ := paired_get (i := i) (x := x) r (by simpa using e)
    exact ⟨y, by simpa using h1, h2⟩
theorem src_t {X : Cx} {d : Addr} {o : Obj} {kvs : List (List Key × V)} {es : Array DictEntry} {ep : Nat} (hod : o.data = .dict es ep) : SrcM X d o (.dT kvs) kvs.length (KPt kvs) es ep := fun pins σ H s I h => by
  obtain ⟨hg, hz, hs, xs, pr, o', es', ep', ho, hx, hdt, he, nd⟩ := I.hok d _ h
  rw [hg] at ho
  cases ho
  obtain ⟨rfl, rfl⟩ := dict_ep hod hdt
  have l1 : es'.size = xs.length := size_of_entries he
  have l2 : kvs.length = xs.length := Paired.length pr
  refine ⟨⟨o, hg, hx, hdt⟩, by omega, fun i hi => ?_⟩
  have hk : i < kvs.length := by omega
  obtain ⟨q, hq, f1, f2, f3⟩ := paired_get pr (List.getElem?_eq_getElem hk)
  have ee := entry_at he i
  rw [hq, Array.getElem?_eq_getElem hi] at ee
  have e3 : es'[i] = entryOfKey (tupleKind (mixKind X.prog X.w)) q := by simpa using ee
  refine ⟨.ref q.2.1, kvs[i].2, ⟨kvs[i].1, q.2.1, List.getElem?_eq_getElem hk, rfl, f2⟩, ?_, ?_⟩
  · rw [e3]; rfl
  · rw [e3]; exact f3
/-- a tuple that stands is known -/
theorem seeT {K : PySem.W.Frag} {W H : Hp} {q : Addr} {xs : List V} (l : Le W H) (h : H q = some (.tup xs)) : ∃ W1, PSt W H W1 H ∧ W1 q = some (.tup xs) := by
  cases e : W q with
  | none =>
    refine ⟨upd W q (.tup xs), ⟨Ex.new e, Ex.refl _, fun a o z => ?_, fun a z => ?_⟩, upd_same⟩
    · by_cases ne : a = q
      · subst ne
        rw [upd_same] at z
        cases z
        exact .inl h
      · rw [upd_ne ne] at z
        exact l a o z
    · by_cases ne : a = q
      · subst ne; exact .inr (.inr ⟨xs, h⟩)
      · rw [upd_ne ne] at z; exact .inl z
  | some o =>
    refine ⟨W, PSt.refl l, ?_⟩
    rcases l q o e with z | ⟨ob, z, _⟩
    · rw [h] at z; cases z; exact e
    · rw [h] at z; cases z
theorem drKeys {K : PySem.W.Frag} {W : Hp} : ∀ ks : List Key, DrA K W (ks.map kV) (ks.map kD)
  | [] => .nil
  | .inl i :: r => .cons (.int i) (drKeys r)
  | .inr x :: r => .cons (.str x) (drKeys r)
theorem drKey {K : PySem.W.Frag} {W : Hp} (k : Key) : Dr K W (kV k) (kD k) := by
  cases k with
  | inl i => exact .int i
  | inr x => exact .str x
def gItems : List D → Option (List D)
  | [.dct ks vs] => some (List.zipWith (fun k v => .tup [k, v]) ks vs)
  | _ => none
def gKeys : List D → Option (List D)
  | [.dct ks _] => some ks
  | _ => none
def gVals : List D → Option (List D)
  | [.dct _ vs] => some vs
  | _ => none
/-- a locked dict stays -/
theorem frm_at {W H2 H : Hp} {M : Addr → Prop} {d : Addr} {o : Obj} {u : HO} (hM : ¬ M d) (h : H2 d = some (.frz o u)) (fr : Frm W H2 M H) : H d = some (.frz o u) := fr.2 d _ h hM (.inr rfl)
section
variable {K : PySem.W.Frag} {W H2 : Hp} {M : Addr → Prop} {d : Addr} {o : Obj}
theorem zw_get {ks vs : List D} {i : Nat} {x : D} (h : (List.zipWith (fun k v => D.tup [k, v]) ks vs)[i]? = some x) : ∃ k v, ks[i]? = some k ∧ vs[i]? = some v ∧ x = .tup [k, v] := by
  rw [List.getElem?_zipWith] at h
  cases e1 : ks[i]? with
  | none => rw [e1] at h; cases h
  | some k =>
    cases e2 : vs[i]? with
    | none => rw [e1, e2] at h; cases h
    | some v => rw [e1, e2] at h; cases h; exact ⟨k, v, rfl, rfl, rfl⟩
theorem itOk_mk {kvs : List (Key × V)} {vs : List D} (hM : ¬ M d) (h : H2 d = some (.frz o (.dK kvs))) (r : DrA K W (kvs.map (·.2)) vs) : ItOk K W H2 M (ItM d o (.dK kvs) kvs.length (KPk kvs)) (List.zipWith (fun k v => .tup [k, v]) (kvs.map fun p => kD p.1) vs) where
  go := fun i H hi fr => ⟨frm_at hM h fr, by have := r.length; simp at hi this; omega⟩
  yl := fun i H x H' z Wc hz fr y ex l => by
    obtain ⟨T, a, b, ⟨k, e1, rfl⟩, rfl, hT, rfl⟩ := y
    obtain ⟨k', v', e2, e3, rfl⟩ := zw_get hz
    rw [List.getElem?_map, e1] at e2
    cases e2
    obtain ⟨b', e4, e5⟩ := r.get e3
    rw [List.getElem?_map, e1] at e4
    cases e4
    refine ⟨upd Wc T (.tup [kV k, b]), PSt.froz l hT, .tup (.inl upd_same) (.cons (drKey k) (.cons ((e5.mono ex).mono (Ex.new (l.no hT))) .nil))⟩
  stop := fun H fr => ⟨frm_at hM h fr, by have := r.length; simp at this ⊢; omega⟩
theorem itOk_mt {kvs : List (List Key × V)} {vs : List D} (hM : ¬ M d) (h : H2 d = some (.frz o (.dT kvs))) (r : DrA K W (kvs.map (·.2)) vs) : ItOk K W H2 M (ItM d o (.dT kvs) kvs.length (KPt kvs)) (List.zipWith (fun k v => .tup [k, v]) (kvs.map fun p => .tup (p.1.map kD)) vs) where
  go := fun i H hi fr => ⟨frm_at hM h fr, by have := r.length; simp at hi this; omega⟩
  yl := fun i H x H' z Wc hz fr y ex l => by
    obtain ⟨T, a, b, ⟨k, q, e1, rfl, hq⟩, rfl, hT, rfl⟩ := y
    obtain ⟨k', v', e2, e3, rfl⟩ := zw_get hz
    rw [List.getElem?_map, e1] at e2
    cases e2
    obtain ⟨b', e4, e5⟩ := r.get e3
    rw [List.getElem?_map, e1] at e4
    cases e4
    obtain ⟨W1, p1, w1⟩ := seeT (K := K) l hq
    have p2 := PSt.froz (o := .tup [.ref q, b]) p1.le hT
    exact ⟨upd W1 T (.tup [.ref q, b]), p1.trans p2, .tup (.inl upd_same) (.cons (.tup (.inl (p2.w _ _ w1)) (drKeys k)) (.cons (((e5.mono ex).mono p1.w).mono p2.w) .nil))⟩
  stop := fun H fr => ⟨frm_at hM h fr, by have := r.length; simp at this ⊢; omega⟩
theorem itOk_kk {kvs : List (Key × V)} (hM : ¬ M d) (h : H2 d = some (.frz o (.dK kvs))) : ItOk K W H2 M (Itk d o kvs) (kvs.map fun p => kD p.1) where
  go := fun i H hi fr => ⟨frm_at hM h fr, by simpa using hi⟩
  yl := fun i H x H' z Wc hz fr y ex l => by
    obtain ⟨rfl, k, v, e1, rfl⟩ := y
    rw [List.getElem?_map, e1] at hz
    cases hz
    exact ⟨Wc, PSt.refl l, drKey k⟩
  stop := fun H fr => ⟨frm_at hM h fr, by simp⟩
theorem itOk_kt {kvs : List (List Key × V)} (hM : ¬ M d) (h : H2 d = some (.frz o (.dT kvs))) : ItOk K W H2 M (Itkt d o kvs) (kvs.map fun p => D.tup (p.1.map kD)) where
  go := fun i H hi fr => ⟨frm_at hM h fr, by simpa using hi⟩
  yl := fun i H x H' z Wc hz fr y ex l => by
    obtain ⟨rfl, k, v, q, e1, rfl, hq⟩ := y
    rw [List.getElem?_map, e1] at hz
    cases hz
    obtain ⟨W1, p1, w1⟩ := seeT (K := K) l hq
    exact ⟨W1, p1, .tup (.inl w1) (drKeys k)⟩
  stop := fun H fr => ⟨frm_at hM h fr, by simp⟩
theorem itOk_vk {kvs : List (Key × V)} {vs : List D} (hM : ¬ M d) (h : H2 d = some (.frz o (.dK kvs))) (r : DrA K W (kvs.map (·.2)) vs) : ItOk K W H2 M (Itd d o kvs) vs where
  go := fun i H hi fr => ⟨frm_at hM h fr, by have := r.length; simp at this; omega⟩
  yl := fun i H x H' z Wc hz fr y ex l => by
    obtain ⟨rfl, k, e1⟩ := y
    obtain ⟨b', e4, e5⟩ := r.get hz
    rw [List.getElem?_map, e1] at e4
    cases e4
    exact ⟨Wc, PSt.refl l, e5.mono ex⟩
  stop := fun H fr => ⟨frm_at hM h fr, by have := r.length; simp at this; omega⟩
end
/-- a known dict, locked -/
theorem lockd {K : PySem.W.Frag} {W H1 : Hp} {x : V} {ks vs : List D} (l : Le W H1) (h : Dr K W x (.dct ks vs)) : ∃ d u, x = .ref d ∧ W d = some u ∧ Mut (some u) ∧ ((∃ o, H1 d = some (.frz o u)) ∨ (H1 d = some u ∧ ∀ od, PSl W H1 W (upd H1 d (.frz od u)))) ∧
    ((∃ kvs, u = .dK kvs ∧ ks = kvs.map (fun p => kD p.1) ∧ DrA K W (kvs.map (·.2)) vs) ∨ ∃ kvs : List (List Key × V), u = .dT kvs ∧ ks = kvs.map (fun p => D.tup (p.1.map kD)) ∧ DrA K W (kvs.map (·.2)) vs) := by
  have key : ∀ {d u}, W d = some u → lkb u = true → (∃ o, H1 d = some (.frz o u)) ∨ (H1 d = some u ∧ ∀ od, PSl W H1 W (upd H1 d (.frz od u))) := fun {d u} hw hu => by
    rcases l d u hw with z | ⟨o, z, _⟩
    · refine .inr ⟨z, fun od => ⟨Ex.refl _, fun a o e q => ?_, fun a e => ?_, fun a o e => ?_, fun a e => .inl e⟩⟩
      · by_cases ne : a = d
        · subst ne
          rw [z] at e
          cases e
          rcases q with q | q
          · rw [hw] at q; cases q
          · rw [hu] at q; cases q
        · rw [upd_ne ne]; exact e
      · by_cases ne : a = d
        · subst ne; rw [upd_same]; nofun
        · rw [upd_ne ne]; exact e
      · by_cases ne : a = d
        · subst ne
          rw [hw] at e
          cases e
          refine .inr ⟨od, upd_same, ?_⟩
          cases u <;> first | rfl | cases hu
        · rcases l a o e with y | ⟨ob, y, t⟩
          · exact .inl (by rw [upd_ne ne]; exact y)
          · exact .inr ⟨ob, by rw [upd_ne ne]; exact y, t⟩
    · exact .inl ⟨o, z⟩
  generalize hks : ks = kk at h
  cases h with
  | dK hw r => exact ⟨_, _, rfl, hw, trivial, key hw rfl, .inl ⟨_, rfl, rfl, r⟩⟩
  | dT n hw r => exact ⟨_, _, rfl, hw, trivial, key hw rfl, .inr ⟨_, rfl, rfl, r⟩⟩
section
variable {P : Program} {w : World} {K : PySem.W.Frag} {mg : Str → Option Value} {base : Heap} {k : Nat} {N : List Str} {sv : Sv} {X : Cx} {Wx : WX}
/-- the reading of a walk over a kept dict -/
theorem walkd {g : List D → Option (List D)} {t : Tm} {σ : L2.St} {H : Hp} {R : It → Hp → Prop} (hg : ∀ d xs, g [d] = some xs → isDct d = true) (h : denI K Wx g (.cons (.ess t) .nil) σ H R) :
    tLk (den K Wx t) σ H fun x H2 => ∃ d u o, x = V.ref d ∧ H2 d = some (.frz o u) ∧ ∃ W M ks vs xs, ¬ M d ∧ g [.dct ks vs] = some xs ∧ ((∃ kvs, u = .dK kvs ∧ ks = kvs.map (fun p => kD p.1) ∧ DrA K W (kvs.map (·.2)) vs) ∨ ∃ kvs : List (List Key × V), u = .dT kvs ∧ ks = kvs.map (fun p => D.tup (p.1.map kD)) ∧ DrA K W (kvs.map (·.2)) vs) ∧
      ∀ J, ItOk K W H2 M J xs → R J H2 := by
  refine den_mono (denI_ess h) fun x H1 z => ?_
  obtain ⟨W, M, d, xs, l, dr, hM, eg, kk⟩ := z
  have hd := hg d xs eg
  cases d with
  | dct ks vs =>
    obtain ⟨a, u, rfl, hw, mu, lk, kinds⟩ := lockd l dr
    have nm : ¬ M a := fun m => by rw [hM a m] at hw; cases hw
    rcases lk with ⟨o, ho⟩ | ⟨ho, ps⟩
    · exact .inl ⟨a, u, o, rfl, ho, W, M, ks, vs, xs, nm, eg, kinds, fun J q => kk J W H1 (PSt.refl l).sl q⟩
    · exact .inr ⟨a, u, ho, mu, fun od => ⟨a, u, od, rfl, upd_same, W, M, ks, vs, xs, nm, eg, kinds, fun J q => kk J W _ (ps od) q⟩⟩
  | _ => cases hd
theorem dkeys (C : Cv P w K mg base k N sv X Wx) {tg e : Expr} {t : Tm} (he : PE X e (den K Wx t)) : PI X tg e (denI K Wx gKeys (.cons (.ess t) .nil)) := by
  refine PI.imp (pi_keys (pe_lk he)) fun σ H R h => ?_
  unfold iKeys tLk
  refine den_mono (walkd (fun d xs e => by cases d <;> first | rfl | cases e) h) fun x H1 z => ?_
  rcases z with z | ⟨d0, u0, h0, m0, z⟩
  · refine .inl ?_
    obtain ⟨d, u, o, rfl, ho, W, M, ks, vs, xs, nm, eg, kinds, kk⟩ := z
    refine ⟨d, o, rfl, ?_⟩
    rcases kinds with ⟨kvs, rfl, rfl, r⟩ | ⟨kvs, rfl, rfl, r⟩
    · cases eg; exact .inl ⟨kvs, ho, kk _ (itOk_kk nm ho)⟩
    · cases eg; exact .inr ⟨kvs, ho, kk _ (itOk_kt nm ho)⟩
  · refine .inr ⟨d0, u0, h0, m0, fun od => ?_⟩
    obtain ⟨d, u, o, rfl, ho, W, M, ks, vs, xs, nm, eg, kinds, kk⟩ := z od
    refine ⟨d, o, rfl, ?_⟩
    rcases kinds with ⟨kvs, rfl, rfl, r⟩ | ⟨kvs, rfl, rfl, r⟩
    · cases eg; exact .inl ⟨kvs, ho, kk _ (itOk_kk nm ho)⟩
    · cases eg; exact .inr ⟨kvs, ho, kk _ (itOk_kt nm ho)⟩
theorem ditems (C : Cv P w K mg base k N sv X Wx) {elts : List Expr} {kq : Nat} {tpos apos cpos : Pos} {e : Expr} {t : Tm} (hs : notSup e = true) (hline : (apos.endLine == cpos.line) = true) (he : PE X e (den K Wx t)) :
    PI X (.Tuple elts kq tpos) (.Call (.Attribute e "items" apos) [] [] cpos) (denI K Wx gItems (.cons (.ess t) .nil)) := by
  have kk := C.kk
  subst kk
  refine ⟨fun pins s σ H R I h => ?_⟩
  have w0 := walkd (fun d xs e => by cases d <;> first | rfl | cases e) h
  refine wpAny_Call_method (T := "dict") (id := "dict.items") (sup_ok hs) rfl hline PySem.F.plainAttrs_dict PySem.F.slot_dict_items PySem.F.type_dict_items (thn ((pe_lk he).run pins s σ H _ I w0) fun v s1 ⟨x, H1, I1, rx, q⟩ => ?_)
  obtain ⟨d, u, o, rfl, ho, W, M, ks, vs, xs, nm, eg, kinds, kk⟩ := q
  obtain rfl : v = Value.ref d := rx
  cases eg
  have main : ∀ {n : Nat} {KP : Hp → Nat → V → V → Prop}, (∀ Y : Cx, ∀ es ep, o.data = .dict es ep → SrcM Y d o u n KP es ep) → (∃ es ep, o.data = .dict es ep) → (d == sysModules) = false → R (ItM d o u n KP) H1 → s1.TypeIs (.ref d) "dict" ∧ (∀ b, Value.ref d = .ref b → ∃ ob, s1.heap.get? b = some ob ∧ ob.dict = none) ∧ wpAny (model X.prog X.w) X.A (callWith cpos (.builtin "dict.items") [.ref d] [] []) (fun v' s' => wpAny (model X.prog X.w) X.A (pyIter v') (PIE X pins σ (.Tuple elts kq tpos) R) X.xe s') X.xe s1 := fun {n KP} src ⟨es, ep, hod⟩ hsys q => by
    obtain ⟨raw, sz, ent⟩ := src X es ep hod pins σ H1 s1 I1 ho
    subst sz
    refine ⟨raw.typeIs, fun b e => ?_, ?_⟩
    · cases e
      obtain ⟨ob, h1, h2, _⟩ := raw
      exact ⟨ob, h1, h2.2.1⟩
    · refine Calls.callWith_builtin rfl (PySem.evalArgs_none ?_)
      refine DT.callItems hsys raw ?_
      have I2 : Inv X pins σ H1 { s1 with heap := s1.heap.push { cls := .type "dict_items", data := .fields #[.ref d] } } := I1.kept (t' := s1.toks) fun b ob z => Heap.get?_push_of_some _ z
      refine DT.iterI (d := d) (es := es) (ep := ep) ⟨_, Heap.get?_push_size _ rfl, rfl, rfl⟩ (raw.push _) ?_
      exact pi_one (tk := s1.toks) I2 _ (turn_M _ fun Y _ _ _ => src Y es ep hod) ⟨.none, .none, Heap.get?_push_size _ rfl⟩ q
  rcases kinds with ⟨kvs, rfl, rfl, r⟩ | ⟨kvs, rfl, rfl, r⟩
  · obtain ⟨hs', hgd, hx, es, ep, _, hdt, _⟩ := I1.frzK ho
    exact main (fun Y es ep hod => src_k hod) ⟨es, ep, hdt⟩ hs' (kk _ (itOk_mk nm ho r))
  · obtain ⟨hs', hgd, hx, es, ep, hdt, _⟩ := I1.frzT ho
    exact main (fun Y es ep hod => src_t hod) ⟨es, ep, hdt⟩ hs' (kk _ (itOk_mt nm ho r))
end
end MP

end
-- MPZ
section
/-! MPZ: dict comprehensions. -/
namespace MP
open PySem L2
theorem put_len (ks vs : List D) (k v : D) : (putD ks vs k v kEq).1.length ≤ ks.length + 1 := by
  unfold putD
  split
  · simp
  · simp
section
variable {K : PySem.W.Frag} {Wx : WX} {c c1 cE : Cf}
/-- what a dict comprehension has made so far -/
def DAc (K : PySem.W.Frag) (W : Hp) (aV : List (Key × V)) (acc : List D × List D) : Prop := acc.1 = aV.map (fun p => kD p.1) ∧ DrA K W (aV.map (·.2)) acc.2
theorem DAc.mono {K : PySem.W.Frag} {W W' : Hp} {aV : List (Key × V)} {acc : List D × List D} (h : DAc K W aV acc) (e : Ex W W') : DAc K W' aV acc := ⟨h.1, h.2.mono e⟩
/-- the reading of a dict comprehension -/
theorem den_dc {σ : St} {H : Hp} {Q : VK} {g : List D → Option (List D)} {as : Ta} {tg : Tg} {own : List Nat} {tc tk te : Tm} (hown : ∀ i ∈ slots tg, i ∈ own) (h : den K Wx (.dc g as tg own tc tk te) σ H Q) :
    tDc (denI K Wx g as) (denG K tg) (denT K W0x tc) (den K W0x tk) (den K W0x te) own σ H Q := by
  obtain ⟨E, W, Γ, R, h⟩ := h
  simp only [ev] at h
  refine ⟨E, W, Γ, R, h.bind0.imp fun ls c1 R1 S1 es h1 => ?_⟩
  obtain ⟨E1, W1, Γ1, σ1, H1⟩ := c1
  cases es
  obtain rfl : E1 = E := S1.ent
  dsimp only at h1
  cases er : resA Γ1 ls with
  | none => rw [er] at h1; exact h1.elim
  | some ds =>
    rw [er] at h1
    dsimp only at h1
    cases eg : g ds with
    | none => rw [eg] at h1; exact h1.elim
    | some xs =>
      rw [eg] at h1
      dsimp only at h1
      split at h1
      rotate_left
      · exact h1.elim
      rename_i cd
      obtain ⟨hlen, hno⟩ := cd
      refine ⟨ds, xs, rfl, eg, fun J W2 H2 p2 IT D hD => ?_⟩
      obtain ⟨R2, S2⟩ := Rel.psl R1 p2
      dsimp only at R2 S2
      generalize hLk : locks Γ1 ls = L at h1
      have hL : ∀ i ∈ L, ∃ b d, Γ1[i]? = some (.mt b d) := fun i hi => by rw [← hLk] at hi; exact locks_mt hi
      -- where the walk begins
      have RL : Rel K ⟨E1, W2, wipeG own (lockA L Γ1), wipe σ own, H2⟩ := (R2.lockA (L := L)).wipe
      generalize hcL : (⟨E1, W2, wipeG own (lockA L Γ1), wipe σ own, H2⟩ : Cf) = cL at RL
      have cLE : cL.E = E1 := by rw [← hcL]
      have cLW : cL.W = W2 := by rw [← hcL]
      have cLH : cL.H = H2 := by rw [← hcL]
      have cLσ : cL.σ = wipe σ own := by rw [← hcL]
      have cLΓ : cL.Γ = wipeG own (lockA L Γ1) := by rw [← hcL]
      have muLe : ∀ a, cL.mu a → muL ⟨E1, W1, Γ1, σ, H1⟩ ls a := fun a ⟨j, b, d, gg, e⟩ => by
        rw [cLΓ] at gg
        rw [cLσ] at e
        rcases wipeG_get gg with ⟨n, z⟩ | ⟨_, z⟩
        · rw [← hLk] at z
          exact ⟨j, b, d, z, (wipe_out n).symm.trans e⟩
        · cases z
      refine ⟨fun i m H => m = xs.length - i ∧ i ≤ xs.length ∧ ∃ W Γ acc aV, Rel K ⟨E1, W, Γ, wipe σ own, H⟩ ∧ Stp cL ⟨E1, W, Γ, wipe σ own, H⟩ ∧ H D = some (.dK aV) ∧ DAc K W aV acc ∧ W D = none ∧ ¬ Cf.ad ⟨E1, W, Γ, wipe σ own, H⟩ D ∧ acc.1.length ≤ i ∧
        dcLoop (ev tc) (ev tk) (ev te) tg own xs ([], []) (wipeG own (lockA L Γ1)) = dcLoop (ev tc) (ev tk) (ev te) tg own (xs.drop i) acc Γ, ⟨xs.length, by simp, Nat.zero_le _, W2, wipeG own (lockA L Γ1), ([], []), [], ?_⟩, ?_⟩
      · have p3 : PSt cL.W cL.H cL.W (upd cL.H D (.dK [])) := PSt.fresh RL.le (by rw [cLH]; exact hD)
        obtain ⟨R3, S3⟩ := RL.pst p3
        have nad : ¬ cL.ad D := fun z => (RL.ad_ne z).1 (by rw [cLH]; exact hD)
        rw [cLE, cLW, cLH, cLσ, cLΓ] at R3 S3
        refine ⟨R3, S3, upd_same, ⟨rfl, .nil⟩, R2.le.no hD, fun z => nad ?_, Nat.le_refl _, ?_⟩
        · obtain ⟨j, g, e⟩ := z
          exact ⟨j, by rw [cLΓ]; exact g, by rw [cLσ]; exact e⟩
        · rw [List.drop_zero]
      · rintro i m Hi ⟨rfl, hi, Wi, Γi, acc, aV, Ri, Si, hDi, hA, hWD, nad, hal, hlp⟩
        have exW : Ex W2 Wi := by
          have := Si.w
          rw [cLW] at this
          exact this
        have kp : Frm W2 H2 (muL ⟨E1, W1, Γ1, σ, H1⟩ ls) Hi := ⟨exW.le Ri.le, fun a o e n gd => Si.fr a o (by rw [cLH]; exact e) (fun z => n (muLe a z)) (by rw [cLW]; exact gd)⟩
        by_cases hlt : i < xs.length
        rotate_left
        · -- the end
          have ei : i = xs.length := by omega
          subst ei
          refine .inl ⟨IT.stop Hi kp, ?_⟩
          rw [List.drop_length] at hlp
          rw [hlp] at h1
          simp only [dcLoop, Rs.bind] at h1
          have SE : Stp ⟨E1, W2, wipeG own (lockA L Γ1), wipe σ own, H2⟩ ⟨E1, Wi, Γi, wipe σ own, Hi⟩ := by rw [hcL]; exact Si
          obtain ⟨R5, S5⟩ := unwalk (c1 := ⟨E1, W2, Γ1, σ, H2⟩) R2 hL hno Ri rfl SE
          refine h1 Wi Hi R5 (S1.trans (S2.trans S5)) _ (.new (S1.back D ((S2.back D hD))) hWD (fun z => ?_) (by obtain ⟨a1, a2⟩ := acc; obtain ⟨rfl, r⟩ := hA; exact .dK hDi r))
          rcases S5.ad D z with y | y
          · exact (R2.ad_ne y).1 hD
          · obtain ⟨j, ⟨b, d, gg⟩, e⟩ := z
            -- a changeable slot with D was one in the walk
            refine nad ⟨j, ?_, ?_⟩
            · rcases gg with gg | gg
              · rcases keepG_get gg with ⟨n, z⟩ | ⟨n, z⟩
                · rcases unlockA_get z with ⟨w, _⟩ | ⟨b', d', _, w, _⟩
                  · exact ⟨b, d, .inl w⟩
                  · exact ⟨b', d', .inr w⟩
                · exfalso
                  have h := List.all_eq_true.mp hno j n
                  cases q : Γ1[j]? with
                  | none => rw [q] at z; cases z
                  | some s =>
                    rw [q] at z
                    have z' : Slot.mt b d = s := z
                    rw [q, ← z'] at h
                    cases h
              · rcases keepG_get gg with ⟨n, z⟩ | ⟨n, z⟩
                · rcases unlockA_get z with ⟨w, _⟩ | ⟨b', d', _, w, _⟩
                  · exact ⟨b, d, .inr w⟩
                  · exact ⟨b', d', .inr w⟩
                · exfalso
                  have h := List.all_eq_true.mp hno j n
                  cases q : Γ1[j]? with
                  | none => rw [q] at z; cases z
                  | some s =>
                    rw [q] at z
                    have z' : Slot.lck b d = s := z
                    rw [q, ← z'] at h
                    cases h
            · have hj : j ∉ own := fun n => by
                have h := List.all_eq_true.mp hno j n
                rcases gg with gg | gg
                · rcases keepG_get gg with ⟨n', _⟩ | ⟨_, z⟩
                  · exact n' n
                  · cases q : Γ1[j]? with
                    | none => rw [q] at z; cases z
                    | some s =>
                      rw [q] at z
                      have z' : Slot.mt b d = s := z
                      rw [q, ← z'] at h
                      cases h
                · rcases keepG_get gg with ⟨n', _⟩ | ⟨_, z⟩
                  · exact n' n
                  · cases q : Γ1[j]? with
                    | none => rw [q] at z; cases z
                    | some s =>
                      rw [q] at z
                      have z' : Slot.lck b d = s := z
                      rw [q, ← z'] at h
                      cases h
              exact (wipe_out hj).trans e
        · -- a turn
          have hx : xs[i]? = some xs[i] := List.getElem?_eq_getElem hlt
          have hdr : xs.drop i = xs[i] :: xs.drop (i + 1) := List.drop_eq_getElem_cons hlt
          rw [hdr] at hlp
          simp only [dcLoop] at hlp
          have h1' := h1
          rw [hlp] at h1'
          refine .inr ⟨IT.go i Hi hlt kp, fun H' => ∃ W Γ acc' aV', Rel K ⟨E1, W, Γ, wipe σ own, H'⟩ ∧ Stp cL ⟨E1, W, Γ, wipe σ own, H'⟩ ∧ H' D = some (.dK aV') ∧ DAc K W aV' acc' ∧ W D = none ∧ ¬ Cf.ad ⟨E1, W, Γ, wipe σ own, H'⟩ D ∧ acc'.1.length ≤ i + 1 ∧
            dcLoop (ev tc) (ev tk) (ev te) tg own xs ([], []) (wipeG own (lockA L Γ1)) = dcLoop (ev tc) (ev tk) (ev te) tg own (xs.drop (i + 1)) acc' Γ,
            fun H' z => ⟨xs.length - (i + 1), by omega, rfl, hlt, z⟩, fun x H' y => ?_⟩
          obtain ⟨W3, p3, dx⟩ := IT.yl i Hi x H' xs[i] Wi hx kp y exW Ri.le
          obtain ⟨R3, S3⟩ := Ri.pst p3
          dsimp only at R3 S3
          have hD3 : H' D = some (.dK aV) := p3.h D _ hDi
          cases eb : bnd tg xs[i] Γi with
          | none => rw [eb] at h1'; exact h1'.elim
          | some Γ4 =>
            rw [eb] at h1' hlp
            refine ⟨E1, W3, Γi, xs[i], Γ4, R3, dx, eb, fun σ4 R4 S4 s4 => ⟨(wipe_same s4 hown).trans ?_, ?_⟩⟩
            · refine List.ext_getElem? fun k => ?_
              by_cases hk : k ∈ own
              · have z : ∀ (τ : St), (wipe τ own)[k]? = if k < τ.length then some none else none := fun τ => by
                  have hl := wipe_length τ own
                  by_cases hlt : k < τ.length
                  · rw [if_pos hlt]
                    cases e : (wipe τ own)[k]? with
                    | none =>
                      rw [List.getElem?_eq_none_iff, hl] at e
                      omega
                    | some o =>
                      cases o with
                      | none => rfl
                      | some x => exact absurd hk (wipe_some e).2
                  · rw [if_neg hlt, List.getElem?_eq_none_iff, hl]
                    omega
                rw [z, z, wipe_length]
              · rw [wipe_out hk]
            · have SL4 : Stp cL ⟨E1, W3, Γ4, σ4, H'⟩ := Si.trans (S3.trans S4)
              have S34 : Stp ⟨E1, Wi, Γi, wipe σ own, Hi⟩ ⟨E1, W3, Γ4, σ4, H'⟩ := S3.trans S4
              -- what stays true of D
              have dkk : ∀ {c' : Cf}, Stp ⟨E1, W3, Γ4, σ4, H'⟩ c' → ¬ c'.ad D := fun {c'} S z => by
                rcases (S34.trans S).ad D z with w | w
                · exact nad w
                · have w' : Hi D = none := w
                  rw [hDi] at w'; cases w'
              have dh : ∀ {c' : Cf}, Stp ⟨E1, W3, Γ4, σ4, H'⟩ c' → c'.H D = some (.dK aV) := fun {c'} S => (S34.trans S).fr D _ hDi (fun z => nad (Cf.mu_ad z)) (.inl hWD)
              have dw : ∀ {c' : Cf}, Stp ⟨E1, W3, Γ4, σ4, H'⟩ c' → c'.W D = none := fun {c'} S => by
                by_cases q : c'.W D = none
                · exact q
                · rcases (S34.trans S).nw D q with w | w | w | ⟨ys, w⟩
                  · exact absurd hWD w
                  · have w' : Hi D = none := w
                    rw [hDi] at w'; cases w'
                  · exact absurd (Cf.mu_ad w) nad
                  · have w' : Hi D = _ := w
                    rw [hDi] at w'; cases w'
              have wex : ∀ {c' : Cf}, Stp ⟨E1, W3, Γ4, σ4, H'⟩ c' → Ex Wi c'.W := fun {c'} S => (S34.trans S).w
              -- wiped behind a turn
              have wp : ∀ {W5 H5 : Hp} {Γ5 : List Slot}, Rel K ⟨E1, W5, Γ5, σ4, H5⟩ → Stp cL ⟨E1, W5, Γ5, σ4, H5⟩ → wipe σ4 own = wipe σ own → Rel K ⟨E1, W5, wipeG own Γ5, wipe σ own, H5⟩ ∧ Stp cL ⟨E1, W5, wipeG own Γ5, wipe σ own, H5⟩ ∧ Stp ⟨E1, W5, Γ5, σ4, H5⟩ ⟨E1, W5, wipeG own Γ5, wipe σ own, H5⟩ := fun {W5 H5 Γ5} R5 S5 e => by
                have a := R5.wipe (own := own)
                have b := Stp.wipe (c := ⟨E1, W5, Γ5, σ4, H5⟩) (own := own)
                dsimp only at a b
                rw [e] at a b
                exact ⟨a, S5.trans b, b⟩
              have hw4 : wipe σ4 own = wipe σ own := by
                refine (wipe_same s4 hown).trans ?_
                refine List.ext_getElem? fun k => ?_
                by_cases hk : k ∈ own
                · have z : ∀ (τ : St), (wipe τ own)[k]? = if k < τ.length then some none else none := fun τ => by
                    have hl := wipe_length τ own
                    by_cases hlt : k < τ.length
                    · rw [if_pos hlt]
                      cases e : (wipe τ own)[k]? with
                      | none =>
                        rw [List.getElem?_eq_none_iff, hl] at e
                        omega
                      | some o =>
                        cases o with
                        | none => rfl
                        | some x => exact absurd hk (wipe_some e).2
                    · rw [if_neg hlt, List.getElem?_eq_none_iff, hl]
                      omega
                  rw [z, z, wipe_length]
                · rw [wipe_out hk]
              simp only at h1' hlp
              cases ec : ev tc Γ4 with
              | stuck => rw [ec] at h1'; exact h1'.elim
              | exn xn Γ5 => rw [ec] at h1'; exact h1'.elim
              | ok l Γ5 =>
                rw [ec] at h1' hlp
                simp only [Rs.nox, Rs.bind] at h1' hlp
                refine ⟨E1, W3, Γ4, R4, ?_⟩
                rw [ec]
                intro W5 H5 R5 S5
                dsimp only at R5 S5
                cases l with
                | ref _ => exact h1'.elim
                | new _ => exact h1'.elim
                | dat dl =>
                  cases dl with
                  | bl bb =>
                    cases bb with
                    | true =>
                      refine ⟨true, rfl, ?_⟩
                      dsimp only
                      rw [if_pos rfl]
                      simp only at hlp
                      cases ekk : ev tk Γ5 with
                      | stuck => rw [ekk] at h1'; exact h1'.elim
                      | exn xn Γ6 => rw [ekk] at h1'; exact h1'.elim
                      | ok lk ΓK =>
                      rw [ekk] at h1' hlp
                      simp only [Rs.nox, Rs.bind] at h1' hlp
                      refine ⟨E1, W5, Γ5, R5, ?_⟩
                      rw [ekk]
                      intro WK HK RK SK vk Vk
                      dsimp only at RK SK Vk
                      cases lk with
                      | ref _ => exact h1'.elim
                      | new _ => exact h1'.elim
                      | dat dk =>
                      dsimp only at h1' hlp
                      by_cases hkk : kK dk = true
                      rotate_left
                      · rw [if_neg hkk] at h1'; exact h1'.elim
                      rw [if_pos hkk] at hlp h1'
                      cases Vk with | dat Vk =>
                      obtain ⟨key, ek1, rfl⟩ := kK_key hkk (Top.dat (H := HK) Vk)
                      cases ee : ev te ΓK with
                      | stuck => rw [ee] at h1'; exact h1'.elim
                      | exn xn Γ6 => rw [ee] at h1'; exact h1'.elim
                      | ok le Γ6 =>
                        rw [ee] at h1' hlp
                        simp only [Rs.nox, Rs.bind] at h1' hlp
                        refine ⟨E1, WK, ΓK, RK, ?_⟩
                        rw [ee]
                        intro W6 H6 R6 S6 vy Vy
                        dsimp only at R6 S6 Vy
                        cases es : esc le Γ6 with
                        | stuck => rw [es] at h1'; exact h1'.elim
                        | exn xn Γ7 => exact (esc_ne es).elim
                        | ok dy Γ7 =>
                          rw [es] at h1' hlp
                          simp only [Rs.bind] at h1' hlp
                          obtain ⟨W7, R7, S7, dd, x7, _, m7⟩ := R6.esc S6 Vy es
                          dsimp only at R7 S7
                          have S57 : Stp ⟨E1, W3, Γ4, σ4, H'⟩ ⟨E1, W7, Γ7, σ4, H6⟩ := (S5.trans SK).trans S7
                          have hD7 : H6 D = some (.dK aV) := dh S57
                          have hW7 : W7 D = none := dw S57
                          have nD7 := dkk S57
                          -- the new item
                          have R8 : Rel K ⟨E1, W7, Γ7, σ4, upd H6 D (.dK (putK aV key vy))⟩ := by
                            refine ⟨R7.len, fun a o e => ?_, fun a z => ?_, R7.dat, fun j b d g => ?_, R7.dist⟩
                            · have ne : a ≠ D := fun z => by
                                have e' : W7 a = some o := e
                                rw [z, hW7] at e'
                                cases e'
                              rcases R7.le a o e with w | ⟨ob, w, tt⟩
                              · exact .inl (by show upd H6 D _ a = _; rw [upd_ne ne]; exact w)
                              · exact .inr ⟨ob, by show upd H6 D _ a = _; rw [upd_ne ne]; exact w, tt⟩
                            · show upd H6 D _ a ≠ none
                              by_cases q : a = D
                              · subst q; rw [upd_same]; exact nofun
                              · rw [upd_ne q]; exact R7.ent a z
                            · obtain ⟨a, e1, e2, e3, e4⟩ := R7.am j b d g
                              have ne : a ≠ D := fun z => nD7 ⟨j, ⟨b, d, g⟩, z ▸ e1⟩
                              exact ⟨a, e1, e2, e3.mono (Ex.refl _) fun o w => by show upd H6 D _ a = _; rw [upd_ne ne]; exact w, e4⟩
                          have S8 : Stp cL ⟨E1, W7, Γ7, σ4, upd H6 D (.dK (putK aV key vy))⟩ := by
                            have q := SL4.trans S57
                            have cD : cL.H D = none := by rw [cLH]; exact hD
                            refine ⟨q.ent, q.w, fun a o e n gd => ?_, fun a z => ?_, q.nw, q.mu, q.ad, q.lk, q.io⟩
                            · have ne : a ≠ D := fun z => by rw [z, cD] at e; cases e
                              show upd H6 D _ a = _
                              rw [upd_ne ne]
                              exact q.fr a o e n gd
                            · show upd H6 D _ a ≠ none
                              by_cases w : a = D
                              · subst w; rw [upd_same]; exact nofun
                              · rw [upd_ne w]; exact q.th a z
                          obtain ⟨R9, S9, T9⟩ := wp R8 S8 hw4
                          refine ⟨aV, key, rfl, hD7, ?_, W7, wipeG own Γ7, putD acc.1 acc.2 dk dy kEq, putK aV key vy, R9, S9, upd_same, ?_, hW7, fun z => ?_, ?_, hlp⟩
                          · have e1 : acc.1.length = aV.length := by rw [hA.1]; simp
                            exact lim_lt (Nat.lt_of_le_of_lt (e1 ▸ hal) (Nat.lt_of_lt_of_le hlt hlen))
                          · obtain ⟨a1, a2⟩ := acc
                            obtain ⟨z1, z2⟩ := hA.mono (wex S57)
                            dsimp only at z1 z2
                            subst z1
                            exact ⟨(put_keys kD key vy dk dy (dKey_k ek1) (fun k0 => kEq_k ek1) aV a2).symm, put_vals kD key vy dk dy dd (fun k0 => kEq_k ek1) z2⟩
                          · obtain ⟨j, g, e⟩ := z
                            obtain ⟨b, d, g⟩ := g
                            have hj : j ∉ own ∧ IsM Γ7 j := by
                              rcases g with g | g
                              · rcases wipeG_get g with ⟨n, w⟩ | ⟨_, w⟩
                                · exact ⟨n, b, d, .inl w⟩
                                · cases w
                              · rcases wipeG_get g with ⟨n, w⟩ | ⟨_, w⟩
                                · exact ⟨n, b, d, .inr w⟩
                                · cases w
                            refine nD7 ⟨j, hj.2, ?_⟩
                            have e' : (wipe σ own)[j]? = some (some (V.ref D)) := e
                            rw [← hw4, wipe_out hj.1] at e'
                            exact e'
                          · have := put_len acc.1 acc.2 dk dy
                            omega
                    | false =>
                      refine ⟨false, rfl, ?_⟩
                      dsimp only
                      rw [if_neg Bool.false_ne_true]
                      simp only at hlp
                      obtain ⟨R9, S9, T9⟩ := wp R5 (SL4.trans S5) hw4
                      have nz : ¬ Cf.ad ⟨E1, W5, wipeG own Γ5, wipe σ own, H5⟩ D := fun z => by
                        rcases T9.ad D z with w | w
                        · exact dkk S5 w
                        · have w' : H5 D = none := w
                          have w2 : H5 D = some (.dK aV) := dh S5
                          rw [w2] at w'
                          cases w'
                      exact ⟨W5, wipeG own Γ5, acc, aV, R9, S9, dh S5, hA.mono (wex S5), dw S5, nz, by omega, hlp⟩
                  | _ => exact h1'.elim
end
end MP

end
-- MO
section
/-! MO: objects compared by their class's own ==. -/
namespace MP
open PySem L2 PySem.Spec PyProof.Rows
section
variable {prog : Program} {w : World} {A : Around} {E : Value → Shared → Prop} {s : Shared} {K : PySem.W.Frag} {x C f : Addr} {ox : Obj} {od : Option Obj} {b tb : Value}
theorem bound_blt {M : Model} {name : Str} {id : String} {args : List Value} {Q : Option Value → Shared → Prop} (X : K.In s.heap) (I : PySem.W.InstAt s.heap x ox C od) (hs : PySem.W.findIn K (.ref C) name = some (some (.builtin id))) (S : PySem.Slot "object" name id)
    (h : wpAny M A (call (.builtin id) (.ref x :: args)) (fun v => Q (some v)) E s) : wpAny M A (callSpecialIfBound? (.ref x) name args) Q E s := by
  simp only [callSpecialIfBound?, bindSpecialIfBound?]
  refine wpAny_holding (wpAny_bind (wpAny_bind (wpAny_bind (I.type.here ((PySem.W.looks_findIn X hs).here ?_)))))
  simp only [S.bind]
  refine wpAny_bind (wpAny_askSetting (wpAny_ite ?_))
  have last : wpAny M A (call (.builtin id) ([.ref x] ++ args) >>= fun v => pure (some v)) Q E s := wpAny_bind (wpAny_mono h (fun v s' q => wpAny_pure q) fun _ _ q => q)
  split
  · exact wpAny_bind (wpAny_pure (wpAny_pure last))
  · exact wpAny_tryCatch (wpAny_bind (wpAny_pure (wpAny_pure last)))
theorem check_ne {M : Model} {rest : List Value} {Q : Unit → Shared → Prop} (X : K.In s.heap) (I : PySem.W.InstAt s.heap x ox C od) (hsub : PySem.W.subIn K (.ref C) (.type "object") = some true) (ha : argsOk "object.__ne__" ⟨.ref x :: rest, []⟩) (hq : Q () s) :
    wpAny M A (checkBuiltinCall "object.__ne__" ⟨.ref x :: rest, []⟩) Q E s := by
  simp only [checkBuiltinCall, F.cmpKind_ne, F.cmpSplit_ne]
  refine wpAny_bind ?_
  unfold isInstance
  refine wpAny_bind (I.type.here ?_)
  refine (PySem.W.looks_subIn X hsub).here ?_
  simp only [Bool.not_true, Bool.false_eq_true, if_false]
  cases hsig : Manifest.signature? "object.__ne__" with
  | none => exact wpAny_pure hq
  | some sig =>
    simp only [argsOk, hsig] at ha
    have h2 : Bind.checkArgs "object.__ne__" sig ⟨.ref x :: rest, []⟩ = pure () := ha
    show wpAny M A (Bind.checkArgs "object.__ne__" sig ⟨.ref x :: rest, []⟩) Q E _
    rw [h2]
    exact wpAny_pure hq
/-- a != b by the class's own == -/
theorem ne_K {Q : Value → Shared → Prop} (hu : A.units + 1 < cLine) (X : K.In s.heap) (I : PySem.W.InstAt s.heap x ox C od) (hb : PySem.W.Looks (model prog w) s.heap (typeOf b) tb) (hn : PySem.W.notFirst K C tb = true)
    (hs : PySem.W.findIn K (.ref C) "__ne__" = some (some (.builtin "object.__ne__"))) (hsub : PySem.W.subIn K (.ref C) (.type "object") = some true) (he : PySem.W.findIn K (.ref C) "__eq__" = some (some (.ref f))) (hf : PySem.W.isFn K (.ref f) = true)
    (h : wpAny (model prog w) A.in1 (call (.ref f) [.ref x, b]) (fun v s' => ∃ c, v = .bool c ∧ Q (.bool (!c)) s') E s) : wpAny (model prog w) A (richCompare .NotEq (.ref x) b) Q E s := by
  have inner : wpAny (model prog w) A (call (.builtin "object.__ne__") [.ref x, b]) (fun v s' => ∃ c, v = .bool c ∧ Q v s') E s := by
    refine wpAny_call (codeAny_call_builtin F.slot_object_ne.plain F.cmpEntry_ne (check_ne X I hsub (F.cmpArgs_ne _ _) ?_))
    unfold Builtin.«object.__ne__»
    have hu' : A.in1.units < cLine := hu
    repeat (first
      | with_reducible refine wpAny_cRoomFor hu' ?_
      | (refine wpAny_bind (m := callSpecialIfBound? (.ref x) (Str.ofString "__eq__") [b]) (PySem.W.ifBound_K X I he hf (wpAny_mono h (fun r s' hr => by
          obtain ⟨c, rfl, hq⟩ := hr
          repeat (first | exact ⟨_, rfl, hq⟩ | exact wpAny_pure ⟨_, rfl, hq⟩ | exact wpAny_truthy_bool ⟨_, rfl, hq⟩ | (refine wpAny_bind (m := truthy (.bool _)) (wpAny_truthy_bool ?_)) | wp_step)) fun _ _ e => e)))
      | wp_step)
  have one : wpAny (model prog w) A (tryCompare (.ref x) "__ne__" b) (fun r s' => ∃ v, r = some v ∧ Q v s') E s := by
    unfold tryCompare
    refine wpAny_bind (bound_blt X I hs F.slot_object_ne (wpAny_mono inner (fun v s' hv => ?_) fun _ _ e => e))
    obtain ⟨c, rfl, q⟩ := hv
    exact wpAny_pure ⟨_, rfl, q⟩
  unfold richCompare
  simp only [oneThing_ref]
  refine wpAny_holding (wpAny_bind (wpAny_cRoomFor (Nat.lt_of_succ_lt hu) ?_))
  refine wpAny_bind (I.type.here (wpAny_bind (hb.here ?_)))
  have two : wpAny (model prog w) A (tryCompare (.ref x) (cmpInfo .NotEq).2.1 b) (fun r s' => ∃ v, r = some v ∧ Q v s') E s := one
  split
  · rename_i q
    have e : PySem.W.subIn K tb (.ref C) = some false := by
      rcases Bool.or_eq_true_iff.mp hn with z | z
      · rw [beq_iff_eq.mp z] at q; simp at q
      · exact beq_iff_eq.mp z
    refine wpAny_bind ((PySem.W.looks_subIn X e).here ?_)
    simp only [Bool.false_eq_true, if_false]
    refine wpAny_bind (wpAny_mono two (fun r s' z => ?_) fun _ _ e => e)
    obtain ⟨v, rfl, q2⟩ := z
    exact wpAny_pure q2
  · refine wpAny_bind (wpAny_pure ?_)
    simp only [Bool.false_eq_true, if_false]
    refine wpAny_bind (wpAny_mono two (fun r s' z => ?_) fun _ _ e => e)
    obtain ⟨v, rfl, q2⟩ := z
    exact wpAny_pure q2
end
/-- == of two objects of one class -/
def eqT (eqs : List (Str × Fn)) : Fn := ⟨[false, false], fun ds => match ds with
  | [.obj c ns vs, .obj c' ns' vs'] => if c = c' then (match eqs.lookup c with
    | some f => if f.io = [false, false] then (match f.F [.obj c ns vs, .obj c' ns' vs'] with
      | .ok (.dat (.bl b)) [] => .ok (.dat (.bl b)) []
      | _ => .stuck) else .stuck
    | none => .stuck) else .stuck
  | _ => .stuck⟩
def EqOk (P : Program) (w : World) (K : PySem.W.Frag) (mg : Str → Option Value) (base : Heap) (k : Nat) (c : Str) (f : Fn) : Prop :=
  ∃ g, PySem.W.findIn K (.ref (He.ga K c)) "__eq__" = some (some (.ref g)) ∧ PySem.W.isFn K (.ref g) = true ∧ PySem.W.findIn K (.ref (He.ga K c)) "__ne__" = some (some (.builtin "object.__ne__")) ∧ PySem.W.subIn K (.ref (He.ga K c)) (.type "object") = some true ∧ Calb P w K mg base k g 2 f
section
variable {P : Program} {w : World} {K : PySem.W.Frag} {mg : Str → Option Value} {base : Heap} {k : Nat} {N : List Str} {sv : Sv} {X : Cx} {Wx : WX}
theorem eqT_sp {eqs : List (Str × Fn)} (he : ∀ p ∈ eqs, EqOk P w K mg base k p.1 p.2) {x y : V} {H : Hp} {Q : VK} {E : XK} (h : spF K (eqT eqs) [x, y] H Q E) :
    ∃ a b c dx dy fs gs f, x = .ref a ∧ y = .ref b ∧ Rd H a (.ins (He.ga K c) dx fs) ∧ Rd H b (.ins (He.ga K c) dy gs) ∧ EqOk P w K mg base k c f ∧ ∀ E', spF K f [x, y] H (fun v H' => ∃ t, v = .bl t ∧ Q v H') E' := by
  obtain ⟨W, ds, l, a, nd, h⟩ := h
  cases a with | dat h1 a =>
  cases a with | dat h2 a =>
  cases a
  rename_i d1 d2
  unfold eqT at h nd
  dsimp only at h nd
  cases d1 with
  | obj c ns vs =>
    cases d2 with
    | obj c' ns' vs' =>
      dsimp only at h
      by_cases hc : c = c'
      rotate_left
      · rw [if_neg hc] at h; exact h.elim
      rw [if_pos hc] at h
      subst hc
      cases ef : eqs.lookup c with
      | none => rw [ef] at h; exact h.elim
      | some f =>
        rw [ef] at h
        dsimp only at h
        by_cases hio : f.io = [false, false]
        rotate_left
        · rw [if_neg hio] at h; exact h.elim
        rw [if_pos hio] at h
        obtain ⟨a, dx, fs, rfl, r1, _, _⟩ := (Top.dat (H := H) h1).obj l
        obtain ⟨b, dy, gs, rfl, r2, _, _⟩ := (Top.dat (H := H) h2).obj l
        refine ⟨a, b, c, dx, dy, fs, gs, f, rfl, rfl, r1, r2, he _ (lkm ef), fun E' => ?_⟩
        have ei : ioA f.io [V.ref a, V.ref b] = [] := by rw [hio]; rfl
        refine ⟨W, [.obj c ns vs, .obj c ns' vs'], l, by rw [hio]; exact .dat h1 (.dat h2 .nil), by rw [ei]; exact List.nodup_nil, ?_⟩
        rw [ei]
        cases eF : f.F [.obj c ns vs, .obj c ns' vs'] with
        | stuck => rw [eF] at h; exact h.elim
        | exn xn ios => rw [eF] at h; exact h.elim
        | ok o ios =>
          rw [eF] at h
          cases o with
          | new _ => exact h.elim
          | dat d =>
            cases d with
            | bl t =>
              cases ios with
              | cons _ _ => exact h.elim
              | nil =>
                intro v W' H' F I O
                have q := h v W' H' F I O
                cases O with
                | dat z => cases z; exact ⟨t, rfl, q⟩
            | _ => exact h.elim
    | _ => exact h.elim
  | _ => exact h.elim
theorem op_eqO (C : Cv P w K mg base (k + 1) N sv X Wx) {eqs : List (Str × Fn)} (he : ∀ p ∈ eqs, EqOk P w K mg base k p.1 p.2) (neg : Bool) : OpR X (compareOp (if neg then .NotEq else .Eq)) (fun x y H Q => spF K (eqT eqs) [x, y] H (fun v H' => ∃ t, v = .bl t ∧ Q (.bl (if neg then !t else t)) H') (fun _ _ _ => False)) := by
  have hp := C.p; have hw := C.w; have kk := C.kk; have hmg := C.m; have hbs := C.b
  subst hp hw kk hmg hbs
  intro pins s σ H x y v u Q I rx ry h
  obtain ⟨a, b, c, dx, dy, fs, gs, f, rfl, rfl, r1, r2, ⟨g, g1, g2, g3, g4, F⟩, sp⟩ := eqT_sp he h
  cases rx
  cases ry
  obtain ⟨mA, J, _⟩ := ins_rd I.hok r1
  obtain ⟨mB, J', _⟩ := ins_rd I.hok r2
  obtain ⟨od, J, _⟩ := J.look
  obtain ⟨od', J', _⟩ := J'.look
  cases neg with
  | false =>
    obtain ⟨m, hF⟩ := I.fr
    show wpAny (model X.prog X.w) X.A (richCompare .Eq (.ref a) (.ref b)) (EP X pins σ Q) X.xe s
    refine PySem.W.cmp_K (op := .Eq) (tb := .ref (He.ga X.K c)) C.room.units0 hF I.ok.mod.kin J J'.type (by simp [PySem.W.notFirst]) g1 g2 ?_
    refine wpAny_call (codeAny_mono (F X (WE Wx σ) X.A pins s σ H _ [.ref a, .ref b] [.ref a, .ref b] rfl rfl rfl rfl rfl (C.room.mono (Nat.le_succ _)) rfl C.gd (passAt C.tk σ) I (.cons rfl (.cons rfl .nil)) rfl (sp _)) fun r s' hq => ?_)
    cases r with
    | error e => exact hq
    | ok fl =>
      cases fl with
      | ret v =>
        obtain ⟨z, H', I', rz, t, rfl, ⟨t', e, q⟩⟩ := hq
        cases e
        cases rz
        exact ⟨.bl _, H', I', rfl, q⟩
      | next => exact hq
      | brk => exact hq
      | cont => exact hq
  | true =>
    show wpAny (model X.prog X.w) X.A (richCompare .NotEq (.ref a) (.ref b)) (EP X pins σ Q) X.xe s
    refine ne_K (f := g) (tb := .ref (He.ga X.K c)) (hu_of C.room) I.kIn J J'.type (by simp [PySem.W.notFirst]) g3 g4 g1 g2 ?_
    refine wpAny_call (codeAny_mono (F X (WE Wx σ) X.A.in1 pins s σ H _ [.ref a, .ref b] [.ref a, .ref b] rfl rfl rfl rfl rfl C.room.in1 rfl C.gd (passAt C.tk σ) I (.cons rfl (.cons rfl .nil)) rfl (sp _)) fun r s' hq => ?_)
    cases r with
    | error e => exact hq
    | ok fl =>
      cases fl with
      | ret v =>
        obtain ⟨z, H', I', rz, t, rfl, ⟨t', e, q⟩⟩ := hq
        cases e
        cases rz
        exact ⟨t, rfl, ⟨.bl _, H', I', rfl, q⟩⟩
      | next => exact hq
      | brk => exact hq
      | cont => exact hq
end
end MP

end
-- MD
section
/-! MD: dicts compared. -/
namespace MP
open PySem L2 PySem.Spec PyProof.Rows
section
variable {prog : Program} {w : World} {κ : Type} [DecidableEq κ] {knd : HeapKind prog w κ} {A : Around} {E : Value → Shared → Prop} {s : Shared}
inductive HitH (prog : Program) (w : World) (A : Around) (s : Shared) (xb : List (κ × Addr × Value)) : List (κ × Addr × Value) → Bool → Prop
  | nil : HitH prog w A s xb [] true
  | miss {k : κ} {p : Addr × Value} {r : List (κ × Addr × Value)} : atKey xb k = none → HitH prog w A s xb ((k, p) :: r) false
  | hit {k : κ} {p q : Addr × Value} {r : List (κ × Addr × Value)} {e b : Bool} : atKey xb k = some q → SeqAt.EqP prog w A s p.2 q.2 e → HitH prog w A s xb r b → HitH prog w A s xb ((k, p) :: r) (e && b)
theorem atKey_some {xs : List (κ × Addr × Value)} {k : κ} {p : Addr × Value} : ∀ {j : Nat}, (xs.map (·.1)).Nodup → xs[j]? = some (k, p) → atKey xs k = some p := by
  induction xs with
  | nil => intro j _ h; simp at h
  | cons x xs ih =>
    intro j nd h
    rw [List.map_cons, List.nodup_cons] at nd
    unfold atKey
    rw [List.find?_cons]
    cases j with
    | zero => simp at h; subst h; simp
    | succ j =>
      have hj : xs[j]? = some (k, p) := by simpa using h
      have ne : ¬ x.1 = k := fun z => nd.1 (by rw [z]; exact List.mem_map.mpr ⟨(k, p), List.mem_of_getElem? hj, rfl⟩)
      simp only [ne, decide_false]
      exact ih nd.2 hj
theorem atKey_none {xs : List (κ × Addr × Value)} {k : κ} (h : ∀ (j : Nat) (p : Addr × Value), xs[j]? ≠ some (k, p)) : atKey xs k = none := by
  unfold atKey
  rw [Option.map_eq_none_iff, List.find?_eq_none]
  intro x hx z
  obtain ⟨j, hj⟩ := List.getElem?_of_mem hx
  have e : x.1 = k := by simpa using z
  exact h j x.2 (by rw [hj, ← e])
theorem pairsH {nm : String} {a b : Addr} {xa xb : List (κ × Addr × Value)} {r : Bool} {Q : Bool → Shared → Prop} (hr : knd.room A) (na : (a == sysModules) = false) (nb : (b == sysModules) = false)
    (da : s.heap.DictOfH knd a xa) (db : s.heap.DictOfH knd b xb) (hits : xa.length = xb.length → HitH prog w A s xb xa r) (fin : Q (xa.length == xb.length && r) s) :
    wpAny (model prog w) A (Builtin.Dict.samePairs nm a b) Q E s := by
  obtain ⟨oa, ea, pa, ga, _, ta, la, ia, _⟩ := da
  obtain ⟨ob, eb, pb, gb, _, tb, lb, ib, nb'⟩ := db
  have za : ea.size = xa.length := size_of_entries la
  have zb : eb.size = xb.length := size_of_entries lb
  unfold Builtin.Dict.samePairs Builtin.Dict.showsAll
  rw [if_neg (fun z => by rw [na] at z; cases z), if_neg (fun z => by rw [nb] at z; cases z)]
  refine wpAny_bind (wpAny_pure (wpAny_bind (wpAny_pure (wpAny_bind (wpAny_dictEntries ga ta ?_)))))
  dsimp only
  refine wpAny_bind (wpAny_dictEntries gb tb ?_)
  by_cases same : ea.size = eb.size
  rotate_left
  · rw [if_pos (by simpa using same)]
    have no : (xa.length == xb.length) = false := by rw [za, zb] at same; simpa using same
    rw [no] at fin
    exact wpAny_bind (wpAny_rule (wpAny_pure fin))
  have sm : xa.length = xb.length := by omega
  have fin' : Q r s := by rw [sm] at fin; simpa using fin
  rw [if_neg (by rw [same]; simp)]
  refine wpAny_bind (wpAny_dictEpoch ga ta (wpAny_bind ?_))
  rw [Std.Legacy.Range.forIn_eq_forIn_range']
  simp only [Std.Legacy.Range.size, Nat.sub_zero, Nat.add_sub_cancel, Nat.div_one]
  refine wpAny_forIn_list _ (fun left q t => t = s ∧ q = (none, ()) ∧ ∃ i, left = List.range' i (ea.size - i) ∧ i ≤ ea.size ∧ HitH prog w A s xb (xa.drop i) r) _ ?_ ?_ _ _ ⟨rfl, rfl, 0, by simp, Nat.zero_le _, hits sm⟩
  · rintro j left q t ⟨rfl, rfl, i, e1, e2, hh⟩
    have lt : i < ea.size := by
      by_cases z : i < ea.size
      · exact z
      · rw [show ea.size - i = 0 by omega] at e1; simp at e1
    rw [show ea.size - i = (ea.size - (i + 1)) + 1 by omega, List.range'_succ] at e1
    injection e1 with j1 j2
    subst j1
    refine wpAny_bind (wpAny_dictEntries ga ta ?_)
    rw [Array.getElem?_eq_getElem lt]
    have lt' : j < xa.length := by omega
    have en := entry_at la j
    rw [Array.getElem?_eq_getElem lt, List.getElem?_eq_getElem lt'] at en
    have en' : ea[j] = entryOfKey knd xa[j] := by simpa using en
    rw [List.drop_eq_getElem_cons lt'] at hh
    obtain ⟨k, p⟩ : ∃ k : κ, ∃ p, xa[j] = (k, p) := ⟨_, _, rfl⟩
    obtain ⟨p, hp⟩ := p
    have isk := ia xa[j] (List.getElem_mem lt')
    rw [hp] at hh en' isk
    show wpAny _ _ (holding [ea[j].key, ea[j].val] _ >>= _) _ _ _
    rw [en']
    refine wpAny_bind (wpAny_holding (wpAny_bind ?_))
    refine wpAny_dictFind_heap hr isk gb tb lb ib nb' (fun none' => ?_) fun j' p' hj' => ?_
    · cases hh with
      | miss z =>
        refine wpAny_pure ?_
        show wpAny _ _ (if (!false) = true then _ else _) _ _ _
        rw [if_pos (by decide)]
        exact wpAny_pure (wpAny_pure fin')
      | hit z _ _ => rw [atKey_none none'] at z; cases z
    · have ak := atKey_some nb' hj'
      have en2 := entry_at lb j'
      rw [hj'] at en2
      refine wpAny_bind (wpAny_dictEntries gb tb ?_)
      rw [en2]
      cases hh with
      | miss z => rw [ak] at z; cases z
      | @hit _ _ q2 _ e bb z he hrest =>
        rw [ak] at z
        cases z
        refine wpAny_holding (he _ _ ?_)
        cases e with
        | false =>
          show wpAny _ _ (if (!false) = true then _ else _) _ _ _
          rw [if_pos (by decide)]
          exact wpAny_pure (wpAny_pure fin')
        | true =>
          show wpAny _ _ (if (!true) = true then _ else _) _ _ _
          rw [if_neg (by decide)]
          refine wpAny_bind (wpAny_dictEpoch ga ta ?_)
          rw [if_neg (by simp)]
          exact wpAny_pure ⟨rfl, rfl, j + 1, j2, lt, hrest⟩
  · rintro q t ⟨rfl, rfl, i, e1, e2, hh⟩
    have ei : i = ea.size := by
      by_cases z : i < ea.size
      · rw [show ea.size - i = (ea.size - (i + 1)) + 1 by omega, List.range'_succ] at e1; exact nomatch e1
      · omega
    rw [ei, za, List.drop_length] at hh
    cases hh
    exact wpAny_pure fin'
theorem cmpH {a b : Addr} {xa xb : List (κ × Addr × Value)} {r : Bool} (neg : Bool) (na : (a == sysModules) = false) (nb : (b == sysModules) = false)
    (da : s.heap.DictOfH knd a xa) (db : s.heap.DictOfH knd b xb) (hu : A.units < cLine) (hr : knd.room A.in1) (hits : xa.length = xb.length → HitH prog w A.in1 s xb xa r) (Q : Value → Shared → Prop) (h : Q (.bool (if neg then !(xa.length == xb.length && r) else xa.length == xb.length && r)) s) :
    wpAny (model prog w) A (richCompare (if neg then .NotEq else .Eq) (.ref a) (.ref b)) Q E s := by
  cases neg with
  | false =>
    refine wpAny_richCompare_same_room (op := .Eq) da.typeIs db.typeIs PySem.F.slot_dict_eq (wpAny_call_entry PySem.F.slot_dict_eq da.typeIs PySem.F.entry_dict_eq ?_ (PySem.F.args_dict_eq_2 _ _)) hu
    show wpAny _ _ (Builtin.Dict.dictSlotArgs "__eq__" ⟨[.ref a, .ref b], []⟩ >>= _) _ _ s
    unfold Builtin.Dict.dictSlotArgs
    refine wpAny_bind (wpAny_bind (wpAny_notOrdered_dict da.typeIs ?_))
    show wpAny _ _ (pure (Value.ref a, Value.ref b)) _ _ s
    refine wpAny_pure (wpAny_bind (wpAny_isInstance (T := "dict") db.typeIs PySem.F.sub_dict_dict ?_))
    simp only [Bool.not_true, Bool.false_eq_true, if_false]
    refine wpAny_bind (wpAny_pure (wpAny_bind (wpAny_pure (wpAny_bind (pairsH hr na nb da db hits ?_)))))
    refine wpAny_pure ⟨_, rfl, nofun, ?_⟩
    simpa using h
  | true =>
    refine wpAny_richCompare_same_room (op := .NotEq) da.typeIs db.typeIs PySem.F.slot_dict_ne (wpAny_call_entry PySem.F.slot_dict_ne da.typeIs PySem.F.entry_dict_ne ?_ (PySem.F.args_dict_ne_2 _ _)) hu
    show wpAny _ _ (Builtin.Dict.dictSlotArgs "__ne__" ⟨[.ref a, .ref b], []⟩ >>= _) _ _ s
    unfold Builtin.Dict.dictSlotArgs
    refine wpAny_bind (wpAny_bind (wpAny_notOrdered_dict da.typeIs ?_))
    show wpAny _ _ (pure (Value.ref a, Value.ref b)) _ _ s
    refine wpAny_pure (wpAny_bind (wpAny_isInstance (T := "dict") db.typeIs PySem.F.sub_dict_dict ?_))
    simp only [Bool.not_true, Bool.false_eq_true, if_false]
    refine wpAny_bind (wpAny_pure (wpAny_bind (wpAny_pure (wpAny_bind (pairsH hr na nb da db hits ?_)))))
    refine wpAny_pure ⟨_, rfl, nofun, ?_⟩
    cases q : (xa.length == xb.length && r) <;> (rw [q] at h; simpa using h)
end
def subI (ks' vs' : List D) : List D → List D → Bool
  | k :: ks, .int i :: vs => (match valD ks' vs' k with
    | some (.int j) => (i == j) && subI ks' vs' ks vs
    | _ => false)
  | _, _ => true
def isI : D → Bool
  | .int _ => true
  | _ => false
def pDEq (neg : Bool) : List D → Option Ou
  | [.dct ks vs, .dct ks' vs'] => if ks.all isTupB = true ∧ ks'.all isTupB = true ∧ vs.all isI = true ∧ vs'.all isI = true then some (.dat (.bl (if neg then !(ks.length == ks'.length && subI ks' vs' ks vs) else ks.length == ks'.length && subI ks' vs' ks vs))) else none
  | _ => none
section
variable {P : Program} {w : World} {K : PySem.W.Frag} {mg : Str → Option Value} {base : Heap} {k : Nat} {N : List Str} {sv : Sv} {X : Cx} {Wx : WX}
theorem Top.tdict {pins : List (Addr × Obj)} {σ : L2.St} {W H : Hp} {s : Shared} {x : V} {ks vs : List D} (I : Inv X pins σ H s) (l : Le W H) (t : Top K W H x (.dct ks vs)) (hk : ks.all isTupB = true) :
    ∃ a kvs xs, x = .ref a ∧ (a == sysModules) = false ∧ KT H kvs xs ∧ s.heap.DictOfH (tupleKind (mixKind X.prog X.w)) a xs ∧ ks = kvs.map (fun p => D.tup (p.1.map kD)) ∧ DrA K W (kvs.map (·.2)) vs := by
  obtain ⟨a, rfl, q⟩ := t.dct l
  rcases q with ⟨kvs, rd, rfl, r⟩ | ⟨kvs, n, rd, rfl, r⟩
  · cases kvs with
    | cons p q => obtain ⟨k0, v0⟩ := p; cases k0 <;> simp [isTupB, kD] at hk
    | nil =>
      obtain ⟨dd, hd⟩ := emptyH (rd.ok I.hok)
      cases r
      exact ⟨a, [], [], rfl, hd, .nil, dd, rfl, .nil⟩
  · obtain ⟨z, hd, xs, kt, dd⟩ := dt_rd I.hok rd
    exact ⟨a, kvs, xs, rfl, hd, kt, dd, rfl, r⟩
theorem hits_ok {A : Around} {s : Shared} {W H : Hp} {kvB : List (List Key × V)} {xb : List (List Key × Addr × Value)} {vsB : List D} (kb : KT H kvB xb) (rb : DrA K W (kvB.map (·.2)) vsB) (ib : vsB.all isI = true) : ∀ {kvA : List (List Key × V)} {xa : List (List Key × Addr × Value)} {vsA : List D}, KT H kvA xa → DrA K W (kvA.map (·.2)) vsA → vsA.all isI = true →
    HitH P w A s xb xa (subI (kvB.map fun p => D.tup (p.1.map kD)) vsB (kvA.map fun p => D.tup (p.1.map kD)) vsA)
  | _, _, _, .nil, .nil, _ => .nil
  | p :: kvA, q :: xa, vsA0, .cons h r, rv, iv => by
    cases rv with | @cons _ _ d vsA rv1 rv2 =>
    have rv1 : Dr K W p.2 d := rv1
    simp only [List.all_cons, Bool.and_eq_true] at iv
    obtain ⟨h1, h2, h3⟩ := h
    obtain ⟨kq, pq⟩ := q
    cases d with
    | int i =>
      cases hv : p.2 with
      | int i' =>
        rw [hv] at rv1
        cases rv1
        simp only [List.map_cons, subI]
        have z := kb.val p.1
        have y := val_t (d := .tup (p.1.map kD)) (dKey_tup p.1) rb
        have all : ∀ (ks : List D) {vs : List D} {k0 d0 : D}, vs.all isI = true → valD ks vs k0 = some d0 → isI d0 = true := fun ks => by
          induction ks with
          | nil => intro vs k0 d0 _ h; cases h
          | cons a ks ih =>
            intro vs k0 d0 hv h
            cases vs with
            | nil => cases h
            | cons b vs =>
              simp only [List.all_cons, Bool.and_eq_true] at hv
              simp only [valD] at h
              split at h
              · cases h; exact hv.1
              · exact ih hv.2 h
        have hall : ∀ d0, valD (kvB.map fun p => D.tup (p.1.map kD)) vsB (.tup (p.1.map kD)) = some d0 → isI d0 = true := fun d0 => all _ ib
        generalize hvd : valD (kvB.map fun p => D.tup (p.1.map kD)) vsB (.tup (p.1.map kD)) = o2 at y hall
        have h1' : p.1 = kq := h1
        subst h1'
        generalize hvv : valV kvB p.1 = o1 at z y
        cases y with
        | no =>
          cases ha : atKey xb p.1 with
          | some q => rw [ha] at z; exact z.elim
          | none => exact .miss ha
        | @so v d' hd' =>
          have := hall _ rfl
          cases d' with
          | int j =>
            cases hd'
            cases ha : atKey xb p.1 with
            | none => rw [ha] at z; exact z.elim
            | some q =>
              rw [ha] at z
              refine .hit ha ?_ (hits_ok kb rb ib r rv2 iv.2)
              have e1 : RelV (.int i) pq.2 := by have := h3; rw [hv] at this; exact this
              exact (eqAt_V e1 (show RelV (.int j) q.2 from z) rfl rfl).eqP
          | _ => cases this
      | _ => rw [hv] at rv1; cases rv1
    | _ => cases iv.1
theorem eq_dict (C : Cv P w K mg base k N sv X Wx) (neg : Bool) : OpR X (compareOp (if neg then .NotEq else .Eq)) (fun x y => rP K (pDEq neg) [x, y]) := by
  have kk := C.kk
  subst kk
  intro pins s σ H x y v u Q I rx ry h
  obtain ⟨W, ds, o, l, tp, e, k1⟩ := h
  obtain ⟨d, _, rfl, t1, tp⟩ := top_cons tp
  obtain ⟨d2, _, rfl, t2, tp⟩ := top_cons tp
  cases tp
  cases d with
  | dct ks vs =>
    cases d2 with
    | dct ks' vs' =>
      simp only [pDEq] at e
      split at e
      rotate_left
      · cases e
      rename_i hc
      obtain ⟨c1, c2, c3, c4⟩ := hc
      cases e
      obtain ⟨a, kvA, xa, rfl, na, ka, da, rfl, ra⟩ := t1.tdict I l c1
      obtain ⟨b, kvB, xb, rfl, nb, kb, db, rfl, rb⟩ := t2.tdict I l c2
      cases rx
      cases ry
      have la : kvA.length = xa.length := Paired.length ka
      have lb : kvB.length = xb.length := Paired.length kb
      have go := cmpH (E := X.xe) (s := s) (A := X.A) (knd := tupleKind (mixKind X.prog X.w)) neg na nb da db C.room.units0 (tupleKind_room_in1 (hu_of C.room)) (fun _ => hits_ok kb rb c4 ka ra c3) (EP X pins σ Q) ⟨.bl _, H, I, rfl, by
        have z := k1 _ W H (PSt.refl l) (.dat (.bl _))
        simpa [la, lb] using z⟩
      cases neg <;> exact go
    | _ => simp [pDEq] at e
  | _ => simp [pDEq] at e
end
end MP

end
-- MS1
section
/-! MS1: sorted of tuples of ints. -/
namespace MP
open PySem L2 PySem.Spec PyProof.Rows
section
variable {prog : Program} {w : World} {A : Around} {E : Value → Shared → Prop} {s : Shared} {Q : Bool → Shared → Prop} {b : Bool}
theorem lexK {xs ys : List Value} {ns ms : List Int} (i : Nat) (hx : IntsAre xs ns) (hy : IntsAre ys ms) (h : Q (HT.lexLt ns ms) s) : PySem.W.KatLex prog w A b (decide (ns.length < ms.length)) Q (xs.zip ys) i s := by
  induction hx generalizing ys ms i with
  | nil =>
    cases hy with
    | nil => exact PySem.W.kat_nil h
    | cons q u hy => exact PySem.W.kat_nil (by rw [HT.lexLt_nil_cons] at h; simpa using h)
  | @cons p t xs ns hx ih =>
    cases hy with
    | nil => exact PySem.W.kat_nil h
    | @cons q u ys ms hy =>
      rw [HT.lexLt_cons] at h
      have el : decide ((p :: ns).length < (q :: ms).length) = decide (ns.length < ms.length) := by simp
      rw [el]
      show PySem.W.KatLex prog w A b (decide (ns.length < ms.length)) Q ((Value.int p t, Value.int q u) :: xs.zip ys) i s
      refine PySem.W.kat_cons (wpAny_eqBool_int ?_)
      by_cases e : p = q
      · subst e
        rw [beq_self_eq_true]
        rw [if_pos rfl] at h
        exact PySem.W.kat_yes (ih (i + 1) hy h)
      · rw [show (p == q) = false from beq_eq_false_iff_ne.mpr e]
        rw [if_neg e] at h
        exact PySem.W.kat_no (TS.oneLt_ints _ h)
end
section
variable {prog : Program} {w : World} {A : Around} {s : Shared}
theorem tup_cmp {vs : List Value} {k : Value → List Int} (hp : ∀ v ∈ vs, TS.TupInts s.heap v (k v)) : SrtO.Cmp prog w A s (tuples' true) (fun p => p.1 ∈ vs) (SrtO.lt2 fun v u => HT.lexLt (k v) (k u)) := by
  intro p q m1 m2
  obtain ⟨a, xs, e1, ⟨o, ho, hc, n, hd⟩, i1⟩ := hp _ m1
  obtain ⟨a', xs', e1', ⟨o', ho', hc', n', hd'⟩, i2⟩ := hp _ m2
  show wpAny (model prog w) A (keyLt' (tuples' true) p.1 q.1) (fun r s' => s' = s ∧ r = HT.lexLt (k p.1) (k q.1)) (fun _ _ => False) s
  have l1 := i1.length
  have l2 := i2.length
  generalize k p.1 = ns at i1 l1
  generalize k q.1 = ms at i2 l2
  rw [e1, e1']
  refine PySem.W.kat_lt ho hd ho' hd' ?_
  have z := lexK (prog := prog) (w := w) (A := A) (s := s) (b := true) (Q := fun r s' => s' = s ∧ r = HT.lexLt ns ms) 0 i1 i2 ⟨rfl, rfl⟩
  rw [← l1, ← l2, Array.length_toList, Array.length_toList] at z
  exact z
theorem tup_firsts {h : Heap} {k : Value → List Int} : ∀ vs : List Value, (∀ v ∈ vs, TS.TupInts h v (k v) ∧ k v ≠ []) → ∃ fs, PySem.W.KatTups h vs fs ∧ fs.length = vs.length ∧ ∀ f ∈ fs, ∃ n t, f = Value.int n t
  | [], _ => ⟨[], PySem.W.KatTups.nil, rfl, nofun⟩
  | v :: vs, x => by
    obtain ⟨fs, kt, hl, hi⟩ := tup_firsts vs fun u hu => x u (List.mem_cons_of_mem _ hu)
    obtain ⟨⟨a, xs, e, ⟨o, ho, hc, n, hd⟩, i⟩, ne⟩ := x v List.mem_cons_self
    subst e
    cases q : xs.toList with
    | nil =>
      rw [q] at i
      generalize k (Value.ref a) = m at i ne
      cases i
      exact absurd rfl ne
    | cons y ys =>
      obtain ⟨m, t, hy⟩ := i.all y (by rw [q]; exact List.mem_cons_self)
      refine ⟨y :: fs, PySem.W.KatTups.cons ho hc hd ?_ kt, by simp [hl], fun f hf => ?_⟩
      · have z := congrArg (fun l : List Value => l[0]?) q
        simpa using z
      · rcases List.mem_cons.mp hf with rfl | hf
        · exact ⟨m, t, hy⟩
        · exact hi f hf
theorem tup_sortable {a : Addr} {vs : List Value} {k : Value → List Int} (h0 : 0 < vs.length) (hp : ∀ v ∈ vs, TS.TupInts s.heap v (k v) ∧ k v ≠ []) (ha : ∀ o, s.heap.get? a = some o → o.cls ≠ .type "tuple") : SrtO.SortableO prog w A s a vs fun v u => HT.lexLt (k v) (k u) := by
  intro h' keep
  have hp' : ∀ v ∈ vs, TS.TupInts h' v (k v) ∧ k v ≠ [] := fun v m => ⟨(hp v m).1.keeps fun c o e cl => keep c o (fun z => by subst z; exact ha o e cl) e, (hp v m).2⟩
  obtain ⟨fs, f1, f2, f3⟩ := tup_firsts vs hp'
  refine ⟨tuples' true, fun Q E hq => ?_, tup_cmp fun v m => (hp' v m).1⟩
  refine PySem.W.kat_kind (T := .type "int") f1 (by omega) (fun f hm => ?_) (by rfl) ?_
  · obtain ⟨x, t, rfl⟩ := f3 f hm
    exact PySem.W.Looks.now
  · rw [show (Value.type "int" != Value.type "tuple") = true by first | decide +kernel | rfl]
    exact hq
end
/-! one sorted list -/
def lxLe (a b : List Int) : Prop := HT.lexLt b a = false
theorem lx_anti : ∀ {a b : List Int}, HT.lexLt a b = false → HT.lexLt b a = false → a = b
  | [], [], _, _ => rfl
  | [], _ :: _, h, _ => by cases h
  | _ :: _, [], _, h => by cases h
  | x :: xs, y :: ys, h1, h2 => by
    rw [HT.lexLt_cons] at h1 h2
    by_cases e : x = y
    · subst e
      rw [if_pos rfl] at h1 h2
      rw [lx_anti h1 h2]
    · rw [if_neg e] at h1
      rw [if_neg (Ne.symm e)] at h2
      simp at h1 h2
      omega
def insL (x : List Int) : List (List Int) → List (List Int)
  | [] => [x]
  | y :: r => if HT.lexLt y x = true then y :: insL x r else x :: y :: r
def isortL : List (List Int) → List (List Int)
  | [] => []
  | x :: r => insL x (isortL r)
theorem insL_perm (x : List Int) : ∀ r, (insL x r).Perm (x :: r)
  | [] => .refl _
  | y :: r => by
    unfold insL
    split
    · exact ((insL_perm x r).cons y).trans (.swap x y r)
    · exact .refl _
theorem isortL_perm : ∀ r, (isortL r).Perm r
  | [] => .refl _
  | x :: r => (insL_perm x (isortL r)).trans ((isortL_perm r).cons x)
theorem insL_srt (x : List Int) : ∀ r : List (List Int), r.Pairwise lxLe → (insL x r).Pairwise lxLe
  | [], _ => by simp [insL]
  | y :: r, h => by
    unfold insL
    rw [List.pairwise_cons] at h
    have O := NtL.swo_lexL (α := List Int) id
    split
    · rename_i q
      refine List.pairwise_cons.mpr ⟨fun z hz => ?_, insL_srt x r h.2⟩
      rcases List.mem_cons.mp ((insL_perm x r).mem_iff.mp hz) with e | e
      · subst e; exact O.asym y z q
      · exact h.1 z e
    · rename_i q
      refine List.pairwise_cons.mpr ⟨fun z hz => ?_, List.pairwise_cons.mpr h⟩
      have q' : HT.lexLt y x = false := by simpa using q
      rcases List.mem_cons.mp hz with e | e
      · subst e; exact q'
      · exact O.tr x y z q' (h.1 z e)
theorem isortL_srt : ∀ r : List (List Int), (isortL r).Pairwise lxLe
  | [] => .nil
  | x :: r => insL_srt x _ (isortL_srt r)
theorem permL_uniq : ∀ {a b : List (List Int)}, a.Perm b → a.Pairwise lxLe → b.Pairwise lxLe → a = b
  | [], b, p, _, _ => (List.nil_perm.mp p).symm
  | x :: a, [], p, _, _ => absurd p.length_eq (by simp)
  | x :: a, y :: b, p, ha, hb => by
    rw [List.pairwise_cons] at ha hb
    have rx : lxLe x x := (NtL.swo_lexL (α := List Int) id).refl x
    have ry : lxLe y y := (NtL.swo_lexL (α := List Int) id).refl y
    have h1 : lxLe x y := by
      rcases List.mem_cons.mp (p.mem_iff.mpr (List.mem_cons_self (a := y) (l := b))) with e | e
      · subst e; exact rx
      · exact ha.1 y e
    have h2 : lxLe y x := by
      rcases List.mem_cons.mp (p.mem_iff.mp (List.mem_cons_self (a := x) (l := a))) with e | e
      · subst e; exact ry
      · exact hb.1 x e
    have e : x = y := lx_anti h2 h1
    subst e
    rw [permL_uniq p.cons_inv ha.2 hb.2]
theorem isortL_uniq {a b : List (List Int)} (p : a.Perm b) (h : a.Pairwise lxLe) : a = isortL b := permL_uniq (p.trans (isortL_perm b).symm) h (isortL_srt b)
/-- tuples of ints -/
def tD (ns : List Int) : D := .tup (ns.map D.int)
def tups? : List D → Option (List (List Int))
  | [] => some []
  | .tup xs :: r => (match ints? xs, tups? r with
    | some ns, some m => some (ns :: m)
    | _, _ => none)
  | _ => none
theorem tups?_ok : ∀ {ds : List D} {m : List (List Int)}, tups? ds = some m → ds = m.map tD
  | [], m, h => by cases h; rfl
  | d :: ds, m, h => by
    cases d with
    | tup xs =>
      unfold tups? at h
      cases e1 : ints? xs with
      | none => rw [e1] at h; cases h
      | some ns =>
        cases e2 : tups? ds with
        | none => rw [e1, e2] at h; cases h
        | some m2 =>
          rw [e1, e2] at h
          cases h
          rw [ints?_ok e1, tups?_ok e2]
          rfl
    | _ => simp [tups?] at h
theorem tups?_map : ∀ m : List (List Int), tups? (m.map tD) = some m
  | [] => rfl
  | ns :: m => by simp [tups?, tD, ints?_map, tups?_map m]
def pSrtT : List D → Option Ou
  | [.lst xs] => (match tups? xs with
    | some m => if m.all (fun ns => !ns.isEmpty) = true then some (.new (.lst ((isortL m).map tD))) else none
    | none => none)
  | _ => none
section
variable {X : Cx} {K : PySem.W.Frag} {W H : Hp}
theorem drT {v : V} {ns : List Int} (l : Le W H) (h : Dr K W v (tD ns)) : ∃ t, v = .ref t ∧ SqT K H t (ns.map V.int) := by
  unfold tD at h
  cases h with
  | tup q r =>
    have := r.toInts
    subst this
    exact ⟨_, rfl, q.sq l⟩
theorem c_srtT (hk : X.K = K) : CallR X (.builtin "sorted") (rP K pSrtT) := by
  subst hk
  intro pins s σ H vs us Q I r h
  obtain ⟨W, ds, o, l, tp, e, k⟩ := h
  unfold pSrtT at e
  split at e
  rotate_left
  · cases e
  rename_i xs
  cases e1 : tups? xs with
  | none => rw [e1] at e; cases e
  | some m =>
    rw [e1] at e
    dsimp only at e
    split at e
    rotate_left
    · cases e
    rename_i hne
    cases e
    have := tups?_ok e1
    subst this
    cases tp with | cons t tp =>
    cases tp
    obtain ⟨a, ws, rfl, hs, dr⟩ := t.lst l
    obtain ⟨its, rv, hl, hz⟩ := I.list hs
    rw [Vals.ref1 r]
    -- what each item is
    have key : ∀ {ws : List V} {its : List Value} {m : List (List Int)}, Vals ws its → DrA X.K W ws (m.map tD) → (m.all fun ns => !ns.isEmpty) = true → its.map (TS.intsOf s.heap) = m ∧ ∀ u ∈ its, (∃ t, u = Value.ref t) ∧ TS.TupInts s.heap u (TS.intsOf s.heap u) ∧ TS.intsOf s.heap u ≠ [] ∧ Dr X.K W (bkV u) (tD (TS.intsOf s.heap u)) := by
      intro ws its m rv
      induction rv generalizing m with
      | nil => intro dr _; cases m with
        | nil => exact ⟨rfl, nofun⟩
        | cons _ _ => cases dr
      | @cons v u vs us r rv ih =>
        intro dr hm
        cases m with
        | nil => cases dr
        | cons ns m =>
          cases dr with | cons d1 d2 =>
          simp only [List.all_cons, Bool.and_eq_true] at hm
          obtain ⟨i1, i2⟩ := ih d2 hm.2
          obtain ⟨t, rfl, st⟩ := drT l d1
          cases r
          have ti := tupI_raw I st
          have ei : TS.intsOf s.heap (.ref t) = ns := ti.ints
          refine ⟨by simp [i1, ei], fun u hu => ?_⟩
          rcases List.mem_cons.mp hu with rfl | hu
          · exact ⟨⟨t, rfl⟩, by rw [ei]; exact ti, by rw [ei]; intro z; subst z; simp at hm, by rw [ei]; exact d1⟩
          · exact i2 u hu
    obtain ⟨k1, k2⟩ := key rv dr hne
    refine SrtO.sorted_ord (NtL.swo_lexL (TS.intsOf s.heap)) hl.isList (by rw [← rv.length]; exact hz) (fun h2 h1 a' ha' kk => ?_) fun out o1 o2 => ?_
    · refine tup_sortable (s := { s with heap := h1 }) (by omega) (fun v hm => ⟨(k2 v hm).2.1.keeps fun c o e _ => (kk c o e).2, (k2 v hm).2.2.1⟩) fun o e => ?_
      have e' : some o = some (seqObj "list" its.toArray 0) := e.symm.trans ha'
      cases e'
      intro c
      exact absurd (Value.type.inj c) (by decide)
    · obtain ⟨ep, he⟩ := PyProof.Rows.sortedAll_at s.heap its out.toArray
      have mem : ∀ u ∈ out, u ∈ its := fun u hu => o2.perm.mem_iff.mp hu
      have srt : out.map (TS.intsOf s.heap) = isortL m := by
        refine isortL_uniq ?_ ?_
        · rw [← k1]; exact o2.perm.map _
        · rw [List.pairwise_map]; exact o1
      have d3 : DrA X.K W (out.map bkV) ((isortL m).map tD) := by
        rw [← srt, List.map_map]
        have : ∀ {l : List Value}, (∀ u ∈ l, Dr X.K W (bkV u) (tD (TS.intsOf s.heap u))) → DrA X.K W (l.map bkV) (l.map (tD ∘ TS.intsOf s.heap)) := fun {l} => by
          induction l with
          | nil => intro _; exact .nil
          | cons u l ih => intro h; exact .cons (h u List.mem_cons_self) (ih fun z hz => h z (List.mem_cons_of_mem _ hz))
        exact this fun u hu => (k2 u (mem u hu)).2.2.2
      have hlen : (out.map bkV).length ≤ sizeLine := by
        rw [List.length_map, o2.perm.length_eq, ← rv.length]; exact hz
      have hp := I.hok.fresh (Nat.le_succ s.heap.objs.size)
      refine ⟨.ref _, upd H (s.heap.objs.size + 1) (.lst (out.map bkV)), I.laid (t' := s.toks) (fun _ _ => PyProof.Rows.sortedAll_old) (Nat.le_succ _) ⟨hlen, out, ep, bkV_vals fun u hu => (k2 u (mem u hu)).1, he⟩, rfl, ?_⟩
      obtain ⟨q1, q2⟩ := orel_lst l d3 hp
      exact k _ _ _ q1 q2
end
end MP

end
-- MS2
section
/-! MS2: sorted(set(xs)) of a list of ints. -/
namespace MP
open PySem L2 PySem.Spec PyProof.Rows
/-- a new set -/
def ob0 (w : World) : Obj := { cls := .type "set", dict := none, data := .set #[] 0 (.fresh 0 0 (!w.params.followText "set-order")) }
section
variable {P : Program} {w : World} {A : Around} {E : Value → Shared → Prop} {s : Shared}
/-- what making a set of a list's ints leaves -/
def Mds (w : World) (s : Shared) (ns : List Int) (s2 : Shared) : Prop := ∃ h' tk c, s2 = { s with heap := h', toks := tk } ∧ SetR w h' s.heap.objs.size (fun j => decide (j ∈ ns)) c ∧ c ≤ ns.length ∧ ∀ b o, s.heap.get? b = some o → h'.get? b = some o
theorem set_init {l : Addr} {its : Array Value} {ns : List Int} (hh : A.handled = none) (hl : s.heap.IsList l its) (hi : IntsAre its.toList ns) (hb : ns.length + 1 < scanBound) :
    wpAny (model P w) A.in1 (Builtin.«set.__init__» ⟨[.ref s.heap.objs.size, .ref l], []⟩) (fun fin s' => match fin with
      | .done f => wants (fun r s₂ => r = .none ∧ Mds w s ns s₂) E (.ok f) s'
      | .again c' => c'.quiet = true ∧ codeAny (model P w) A c' (wants (fun r s₂ => r = .none ∧ Mds w s ns s₂) E) s') (fun e s' => wants (fun r s₂ => r = .none ∧ Mds w s ns s₂) E (.error e) s') { s with heap := s.heap.push (ob0 w) } := by
  have len : its.size = ns.length := by rw [← Array.length_toList]; exact hi.length
  obtain ⟨o, ho, e1, cap, e2⟩ := hl
  have below := Heap.lt_size ho
  obtain ⟨oc, od, oo, os⟩ := o
  simp only at e1 e2
  subst e1 e2
  have g1 : (s.heap.push (ob0 w)).get? s.heap.objs.size = some (ob0 w) := Heap.get?_push_size _ rfl
  have g2 := Heap.get?_push_of_some (ob0 w) ho
  have L : (s.heap.push (ob0 w)).IsList l its := ⟨_, g2, rfl, cap, rfl⟩
  have q1 := F.sub_list_set
  have q2 := F.sub_list_frozenset
  have q3 : (Value.type "list" == Value.type "dict") = false := by decide
  have g1' := g1
  unfold ob0 at g1'
  unfold Builtin.«set.__init__» noKeywords Builtin.Frozenset.updateFrom
  generalize ePI : pyIter = PI
  wp_walk
  subst ePI
  have fr : ∀ {b : Addr}, b < s.heap.objs.size → b ≠ s.heap.objs.size ∧ b ≠ (s.heap.push (ob0 w)).objs.size := fun {b} z => by rw [Heap.size_push]; exact ⟨Nat.ne_of_lt z, Nat.ne_of_lt (Nat.lt_succ_of_lt z)⟩
  have nI : s.heap.objs.size ≠ (s.heap.push (ob0 w)).objs.size := by rw [Heap.size_push]; exact Nat.ne_of_lt (Nat.lt_succ_self _)
  refine wpAny_pyIter_list L (wpAny_bind (wpAny_runValue ?_))
  have at_ : ∀ (i : Nat) (v : Value), its[i]? = some v → ∃ k t, ns[i]? = some k ∧ v = .int k t := fun i v hv => by
    have lt : i < ns.length := len ▸ (Array.getElem?_eq_some_iff.mp hv).1
    obtain ⟨t, e⟩ := hi.int_at i v (by rw [Array.getElem?_toList]; exact hv)
    exact ⟨ns[i], t, List.getElem?_eq_getElem lt, by rw [e]; simp [List.getD_eq_getElem?_getD, lt]⟩
  refine set_update_ints (n := its.size) (A := A.in1) (Walks.list (by simp [hh]) _ l (fr below).2 its).toS s.heap.objs.size (fun z => ?_) ns len hb at_ its.size 0 _ (Nat.sub_zero _) (Nat.zero_le _) ⟨⟨_, Heap.get?_push_size _ rfl, rfl, rfl⟩, L.push _⟩ ⟨0, Nat.le_refl 0, setR_new_at (Heap.get?_push_of_some _ g1')⟩ fun s2 c mv hc R => ?_
  · rcases List.mem_cons.mp z with z | z
    · exact nI z
    · exact (fr below).1 (List.mem_singleton.mp z).symm
  · obtain ⟨h2, gn, dr, tk, os2⟩ := s2
    obtain rfl : gn = s.gens := mv.gens
    obtain rfl : dr = s.drawn := mv.drawn
    obtain rfl : os2 = s.os := mv.os
    refine wpAny_pure (wpAny_pure ⟨rfl, h2, tk, c, rfl, R, len ▸ hc, fun b o e => mv.heap b o (fun z => ?_) (Heap.get?_push_of_some _ (Heap.get?_push_of_some _ e))⟩)
    have lt := Heap.lt_size e
    rcases List.mem_cons.mp z with z | z
    · exact (fr lt).1 z
    · exact (fr lt).2 (List.mem_singleton.mp z)
/-- set(xs) -/
theorem set_of {l : Addr} {its : Array Value} {ns : List Int} {Q : Value → Shared → Prop} (hh : A.handled = none) (hl : s.heap.IsList l its) (hi : IntsAre its.toList ns) (hb : ns.length + 1 < scanBound) (h : ∀ s2, Mds w s ns s2 → Q (.ref s.heap.objs.size) s2) :
    wpAny (model P w) A (call (.type "set") [.ref l]) Q E s := by
  obtain ⟨_, _, mro⟩ := F.called_set.mro
  have md := F.called_set.made
  have sb := F.called_set.sub
  have nt := F.called_set.notType
  have cr := F.called_set.canCreate
  have ck := F.typeCall_set_1 (.ref l)
  refine wpAny_call (codeAny_of_tree ?_)
  show wpAny _ _ (callAny (.type "set") _) _ _ _
  refine wpAny_pure ⟨Code.quiet_builtin _ (by decide +kernel), codeAny_builtin F.entry_type_call ?_⟩
  rw [Around.under_plain (weight_type_call_type "set" [.ref l] []) rfl]
  repeat (any_goals (first | assumption | wp_step))
  refine codeAny_mono (code_set_led1 (.ref l) (E := E) (Q₁ := fun v s1 => v = .ref s.heap.objs.size ∧ s1 = { s with heap := s.heap.push (ob0 w) }) ⟨rfl, rfl⟩) fun r s1 hr => ?_
  match r, hr with
  | .ok (.ret v), hr =>
    obtain ⟨rfl, rfl⟩ := hr
    have ty : Shared.TypeIs { s with heap := s.heap.push (ob0 w) } (.ref s.heap.objs.size) "set" := ⟨ob0 w, Heap.get?_push_size _ rfl, rfl⟩
    have lk := F.called_set.init.lookup
    have bd := F.called_set.init.bind (.ref s.heap.objs.size)
    repeat (any_goals (first | assumption | wp_step))
    refine codeAny_mono (codeAny_call_builtin F.called_set.init.plain F.entry_set_init (check_set_init_1 ty (set_init (E := E) (A := A.in1) (by simp [hh]) hl hi hb))) fun r s2 hr2 => ?_
    match r, hr2 with
    | .ok (.ret v), hr2 =>
      obtain ⟨rfl, m⟩ := hr2
      repeat (any_goals (first | assumption | wp_step))
      exact h s2 m
    | .error e, hr2 => exact hr2
    | .ok .next, hr2 => exact hr2.elim
    | .ok .brk, hr2 => exact hr2.elim
    | .ok .cont, hr2 => exact hr2.elim
  | .error e, hr => exact hr
  | .ok .next, hr => exact hr.elim
  | .ok .brk, hr => exact hr.elim
  | .ok .cont, hr => exact hr.elim
end
/-- each once, ascending -/
def ddup : List Int → List Int
  | [] => []
  | x :: r => if x ∈ r then ddup r else x :: ddup r
theorem ddup_mem {k : Int} : ∀ {l : List Int}, k ∈ ddup l ↔ k ∈ l
  | [] => Iff.rfl
  | x :: r => by
    have ih := ddup_mem (k := k) (l := r)
    unfold ddup
    split
    · rename_i h
      rw [ih, List.mem_cons]
      exact ⟨.inr, fun z => z.elim (fun e => e ▸ h) id⟩
    · rw [List.mem_cons, List.mem_cons, ih]
theorem ddup_nodup : ∀ l : List Int, (ddup l).Nodup
  | [] => List.nodup_nil
  | x :: r => by
    unfold ddup
    split
    · exact ddup_nodup r
    · rename_i h
      exact List.nodup_cons.mpr ⟨fun z => h (ddup_mem.mp z), ddup_nodup r⟩
def dsort (ns : List Int) : List Int := isort (ddup ns)
def pSrtS : List D → Option Ou
  | [.lst xs] => (match ints? xs with
    | some ns => if ns.length < 64 then some (.new (.lst ((dsort ns).map D.int))) else none
    | _ => none)
  | _ => none
theorem dsort_uniq {ns l : List Int} (h1 : l.Pairwise (· < ·)) (h2 : ∀ k, k ∈ l ↔ k ∈ ns) : l = dsort ns := by
  refine isort_uniq ?_ (h1.imp fun h => Int.le_of_lt h)
  refine (List.perm_ext_iff_of_nodup (h1.imp fun h => Int.ne_of_lt h) (ddup_nodup _)).mpr fun k => ?_
  rw [h2, ddup_mem]
section
variable {P : Program} {w : World} {K : PySem.W.Frag} {mg : Str → Option Value} {base : Heap} {k : Nat} {N : List Str} {sv : Sv} {X : Cx} {Wx : WX}
/-- set(xs), sorted(set) -/
def rStI (K : PySem.W.Frag) (w : World) : List V → Hp → VK → Prop := fun xs H Q => ∃ (a : Addr) (ns : List Int), xs = [.ref a] ∧ SqL K H a (ns.map V.int) ∧ ns.length < 64 ∧ ∀ p c, H p = none → c ≤ ns.length → Q (.ref p) (upd H p (SetO w p (fun j => decide (j ∈ ns)) c))
theorem c_setI (hc : X.calm = true) : CallR X (.type "set") (rStI X.K X.w) := by
  intro pins s σ H xs us Q I r h
  obtain ⟨a, ns, rfl, hq, hl, q⟩ := h
  rw [Vals.ref1 r]
  obtain ⟨its, rv, pl, hz⟩ := I.list hq
  refine set_of (ns := ns) (I.ok.hd hc) pl.isList (by simpa using rv.ints) (by unfold scanBound; omega) fun s2 m => ?_
  obtain ⟨h', tk, c, rfl, R, hcn, kp⟩ := m
  exact ⟨.ref s.heap.objs.size, _, I.laid (t' := tk) kp (Nat.le_refl _) (setO_new R), rfl, q _ c (I.hok.fresh (Nat.le_refl _)) hcn⟩
theorem srtS_ok (C : Cv P w K mg base k N sv X Wx) (hm : ∀ x ∈ (["sorted", "set"] : List Str), mg x = none) {e : Expr} {as : Ta} {p p2 q pos : Pos} (hg : glB sv.sc "sorted" = true) (hg2 : glB sv.sc "set" = true) (hs : notStar e = true) (h : PEs X K Wx [e] as) :
    PE X (.Call (.Name "sorted" p) [.Call (.Name "set" p2) [e] [] q] [] pos) (den K Wx (.prim pSrtS as)) := by
  have kk := C.kk
  have hm' : ∀ x ∈ (["sorted", "set"] : List Str), X.mg x = none := fun x hx => by rw [C.m]; exact hm x hx
  have g1 : Gl X "sorted" := glB_ok (by rw [C.sc]; exact hg)
  have g2 : Gl X "set" := glB_ok (by rw [C.sc]; exact hg2)
  subst kk
  have i1 := pe_callTy (p := p2) (pos := q) (c_setI C.calm) g2 (hm' _ (by simp)) PyProof.Rows.boot_set (h.pa (by simp [hs])) (by decide +kernel) (by decide +kernel) (star_cons hs) (star_any (es := []) rfl)
  refine PE.imp (pe_callB (p := p) (pos := pos) (cr_sortedSet C.calm) g1 (hm' _ (by simp)) boot_sorted (pa_cons i1 pa_nil rfl) (by decide +kernel) (by decide +kernel) rfl rfl) fun σ H Q z => ?_
  show denA X.K Wx as σ H (fun vs H1 => rStI X.K X.w vs H1 fun x H2 => rSortedSet X.w [x] H2 Q)
  refine denA_mono (den_prim z) fun vs H1 y => ?_
  obtain ⟨W, ds, o, l, tp, e1, k1⟩ := y
  unfold pSrtS at e1
  split at e1
  rotate_left
  · cases e1
  split at e1
  rotate_left
  · cases e1
  rename_i ns ei
  split at e1
  rotate_left
  · cases e1
  rename_i h64
  cases e1
  cases tp with | cons t tp =>
  cases tp
  obtain ⟨a, rfl, sq⟩ := t.ints l ei
  refine ⟨a, ns, rfl, sq, h64, fun p1 c hp hc => ?_⟩
  refine ⟨p1, _, c, rfl, upd_same, by omega, fun l2 p3 o1 o2 o3 hp3 => ?_⟩
  have e2 : l2 = dsort ns := dsort_uniq o1 fun j => by rw [o2]; simp
  subst e2
  have f1 := PSt.fresh (o := SetO X.w p1 (fun j => decide (j ∈ ns)) c) l hp
  obtain ⟨q1, q2⟩ := orel_lst (K := X.K) f1.le (DrA.ints (ns := dsort ns)) hp3
  refine k1 _ _ _ (f1.trans q1) ?_
  cases q2 with
  | new z1 z2 z3 =>
    refine .new ?_ z2 z3
    cases z : H1 p3 with
    | none => rfl
    | some o => rw [f1.h p3 o z] at z1; cases z1
end
end MP

end
-- ME
section
/-! ME: enumerate of a tuple. -/
namespace MP
open PySem L2 PySem.Spec PyProof.Rows
open AutoSeq1 (wpAny_loadPart')
/-- the iterator of a tuple, the enumerate over it -/
def tuIt (t : Addr) : Obj := { cls := .type "tuple_iterator", data := .fields #[.ref t, .int 0 0] }
def enOb (i : Addr) : Obj := { cls := .type "enumerate", data := .fields #[.none, .bool false, .ref i, rawInt 0, .none, .none] }
theorem enum_new (t : Addr) (its : Array Value) (n : Nat) (dc : Option Addr) (sl : Array (Option Value)) : Meets (Builtin.«enumerate.__new__» ⟨[.type "enumerate", .ref t], []⟩) fun _ R s => s.heap.get? t = some { cls := .type "tuple", dict := dc, data := .seq its n, slots := sl } ∧
    R (.ok (.ret (.ref (s.heap.push (tuIt t)).objs.size))) { s with heap := (s.heap.push (tuIt t)).push (enOb s.heap.objs.size) } :=
  .of_wp fun prog w A R s h => by
    obtain ⟨hp, g, d, tk, os⟩ := s
    obtain ⟨hl, h⟩ := h
    have sb := sub_enumerate
    have hT : Heap.IsTuple (Shared.heap ⟨hp, g, d, tk, os⟩) t its := ⟨_, hl, rfl, n, rfl⟩
    wp_walk using wpAny_loadPart' hl
    refine wpAny_stack_any fun st => wpAny_pure ?_
    split
    · rename_i c _ _ _ _ _
      cases (c == Value.type "enumerate") <;> (wp_walk using wpAny_loadPart' hl, wpAny_pyIter_tuple hT; exact ⟨_, rfl, h⟩)
    · wp_walk using wpAny_loadPart' hl, wpAny_pyIter_tuple hT
      exact ⟨_, rfl, h⟩
section
variable {P : Program} {w : World} {A : Around} {E : Value → Shared → Prop} {s : Shared}
theorem enum_call {t : Addr} {its : Array Value} {Q : Value → Shared → Prop} (hL : s.heap.IsTuple t its) (h : Q (.ref (s.heap.objs.size + 1)) { s with heap := (s.heap.push (tuIt t)).push (enOb s.heap.objs.size) }) : wpAny (model P w) A (call (.type "enumerate") [.ref t]) Q E s := by
  obtain ⟨⟨c, dc, dt, sl⟩, hl, e1, n, e2⟩ := hL
  simp only at e1 e2
  subst e1 e2
  have sz : (s.heap.push (tuIt t)).objs.size = s.heap.objs.size + 1 := Heap.size_push ..
  refine callType_new F.called_enumerate (by decide) (F.typeCall_enumerate_1 _) (F.newCall_enumerate_1 _) (fun obj => F.args_object_init_2 obj _) F.entry_enumerate_new (enum_new t its n dc sl) ⟨hl, ?_⟩
  show _ ∧ _
  refine ⟨⟨enOb s.heap.objs.size, Heap.get?_push_size _ rfl, rfl⟩, ?_⟩
  rw [sz]
  exact h
end
/-- the tuple at a, each item in a new pair -/
def Iten (K : PySem.W.Frag) (a : Addr) : It :=
  ⟨fun i H => ∃ (xs : List V) (x : V), SqT K H a xs ∧ xs[i]? = some x, fun i H v H' => ∃ T x, v = .ref T ∧ H T = none ∧ H' = upd H T (.tup [.int (i : Nat), x]) ∧ ∀ xs, SqT K H a xs → xs[i]? = some x, fun i H => ∃ xs : List V, SqT K H a xs ∧ xs.length = i⟩
theorem turn_en {P : Program} {w : World} {K : PySem.W.Frag} {elts : List Expr} {kk : Nat} {tpos : Pos} {a e it : Addr} (n1 : e ≠ it) (n2 : a ≠ e) (n3 : a ≠ it) :
    Turn P w K (.Tuple elts kk tpos) (Iten K a) [e, it] e (fun i h => (∃ old, IsEnum h e it ((i : Nat) : Int) old) ∧ h.IsTupleIter it a i) where
  mem := by simp
  obj := fun i h st b hb => by
    obtain ⟨⟨old, he⟩, o, ho, hc, hd⟩ := st
    rcases List.mem_cons.mp hb with z | z
    · subst z; exact ⟨_, he, nofun⟩
    · rw [List.mem_singleton.mp z]; exact ⟨o, ho, fun v q => by rw [hd] at q; cases q⟩
  keep := fun i h h' ⟨⟨old, he⟩, hi⟩ kp => ⟨⟨old, kp e (by simp) _ he⟩, hi.at fun o q => kp it (by simp) o q⟩
  item := by
    intro X hP hw hK hc i pins s σ H E I hf st hg
    subst hP hw hK
    obtain ⟨⟨old, he⟩, hi⟩ := st
    obtain ⟨xs, x, hq, hx⟩ := hg
    obtain ⟨its, rv, p, hz⟩ := I.tuple hq
    obtain ⟨u, hu, ru⟩ := rv.get hx
    have le := Heap.lt_size he
    have li : it < s.heap.objs.size := by obtain ⟨_, q, _⟩ := hi; exact Heap.lt_size q
    have hlt : i < its.toArray.size := by simpa using (List.getElem?_eq_some_iff.mp hu).1
    refine wpAny_pyNext_enum_itemD (Draws.tuple (by simp [I.ok.hd hc]) it a n3 its.toArray) he ⟨hi, p⟩ hlt n1 (by simp [n1, Ne.symm n2]) fun v h' tk hv ho hst hT hsz kp => ?_
    have ev : v = u := by
      rw [List.getElem?_toArray, hu] at hv
      exact (Option.some.inj hv).symm
    subst ev
    refine ⟨_, rfl, wpAny_letOwnedTupleGo_enum (s := { s with heap := h', toks := tk + 1 }) ho fun h2 he2 sb => ?_⟩
    have fr := I.hok.fresh (Nat.le_refl s.heap.objs.size)
    have ok : ObjOk X.prog X.w (upd H s.heap.objs.size (.tup [.int (i : Nat), x])) h2 s.heap.objs.size (.tup [.int (i : Nat), x]) :=
      ⟨by show 2 ≤ sizeLine; decide, [.int i tk, v], .cons ⟨_, rfl⟩ (.cons ru .nil), ⟨_, (sb.2 _ (Nat.ne_of_gt le)).trans hT, rfl, _, rfl⟩⟩
    refine ⟨.ref s.heap.objs.size, _, I.turnedNew (t' := tk + 1) (ch := [e, it]) (fun b ob hb q => ?_) hf (Nat.le_refl _) ok, rfl, ⟨_, x, rfl, fr, rfl, fun ys hy => ?_⟩, ⟨⟨v, ?_⟩, hst.1.at fun o q => (sb.2 it (Ne.symm n1)).trans q⟩, fun b hb => ?_⟩
    · simp only [List.mem_cons, List.not_mem_nil, or_false, not_or] at hb
      exact (sb.2 b hb.1).trans (kp b ob hb.1 hb.2 q)
    · rw [I.tuple_inj hy hq]; exact hx
    · have e1 : ((i + 1 : Nat) : Int) = (i : Int) + 1 := by omega
      rw [e1]; exact he2
    · have lt : b < s.heap.objs.size := by
        rcases List.mem_cons.mp hb with z | z
        · rw [z]; exact le
        · rw [List.mem_singleton.mp z]; exact li
      rw [upd_ne (Nat.ne_of_lt lt)]
      exact (hf b hb).1
  done := by
    intro X hP hw hK hc i pins s σ H E I hf st hg
    subst hP hw hK
    obtain ⟨⟨old, he⟩, hi⟩ := st
    obtain ⟨xs, hq, hx⟩ := hg
    obtain ⟨its, rv, p, hz⟩ := I.tuple hq
    obtain ⟨f0, f1, f2, f3, f4, f5⟩ := hf it (by simp)
    have hl : its.toArray.size = i := by rw [← hx, rv.length]; simp
    exact wpAny_pyNext_enum_endD (Draws.tuple (by simp [I.ok.hd hc]) it a n3 its.toArray) he (by rw [hl]; exact ⟨hi, p⟩) fun h' eb => ⟨rfl, I.turned (t' := s.toks) (fun b o hb q => eb b o hb q) f0 f1 f3 f4 f5⟩
  self := fun A i s Q E st h => let ⟨⟨_, he⟩, _⟩ := st; wpAny_pyIter_enum he h
section
variable {P : Program} {w : World} {K : PySem.W.Frag} {mg : Str → Option Value} {base : Heap} {k : Nat} {N : List Str} {sv : Sv} {X : Cx} {Wx : WX}
theorem itOk_en {W H1 : Hp} {M : Addr → Prop} {a : Addr} {xs : List D} (s : ∀ H, Frm W H1 M H → Le W H ∧ ∃ vs, SqT K H a vs ∧ DrA K W vs xs) : ItOk K W H1 M (Iten K a) (xs.mapIdx fun i d => .tup [.int (i : Nat), d]) where
  go := fun i H hi fr => by
    obtain ⟨_, vs, q, r⟩ := s H fr
    have : i < vs.length := by rw [r.length]; simpa using hi
    exact ⟨vs, vs[i], q, List.getElem?_eq_getElem this⟩
  yl := fun i H x H' d Wc hd fr y ex l => by
    obtain ⟨_, vs, q, r⟩ := s H fr
    obtain ⟨T, z, rfl, hT, rfl, y⟩ := y
    rw [List.getElem?_mapIdx] at hd
    cases q2 : xs[i]? with
    | none => rw [q2] at hd; cases hd
    | some d0 =>
      rw [q2] at hd
      cases hd
      obtain ⟨v, e1, e2⟩ := r.get q2
      have e3 := y vs q
      rw [e1] at e3
      cases e3
      have e4 : Dr K Wc z d0 := e2.mono ex
      exact ⟨upd Wc T (.tup [.int (i : Nat), z]), PSt.froz l hT, .tup (.inl upd_same) (.cons (.int _) (.cons (e4.mono (Ex.new (l.no hT))) .nil))⟩
  stop := fun H fr => by
    obtain ⟨_, vs, q, r⟩ := s H fr
    exact ⟨vs, q, by rw [r.length]; simp⟩
/-- enumerate(x), x a list or a tuple -/
def gEnB : List D → Option (List D)
  | [.lst xs] => some (xs.mapIdx fun i d => .tup [.int (i : Nat), d])
  | [.tup xs] => some (xs.mapIdx fun i d => .tup [.int (i : Nat), d])
  | _ => none
theorem pi_enB (hk : X.K = K) {elts : List Expr} {kq : Nat} {tpos : Pos} {a : Expr} {as : Ta} {p pos : Pos} (hg : Gl X "enumerate") (hm : X.mg "enumerate" = none) (hs : notStar a = true) (ha : PEs X K Wx [a] as) : PI X (.Tuple elts kq tpos) (.Call (.Name "enumerate" p) [a] [] pos) (denI K Wx gEnB as) := by
  subst hk
  refine ⟨fun pins s σ H R I h => ?_⟩
  refine Call_ (ld_blt I hg hm boot_enumerate (PyProof.Rows.callWith_type1 (thn ((ha.pa (by simp [hs])).run pos pins s σ H _ I (denI_A h)) fun us s1 ⟨vs, H1, I1, r1, q1⟩ => ?_) (by rw [star_cons hs]) rfl))
  obtain ⟨W, M, ds, xs, l, st, eg, kk⟩ := q1
  have tp := sta_self l st
  unfold gEnB at eg
  split at eg
  · cases eg
    cases tp with | cons tp t2 =>
    cases t2
    obtain ⟨a, vs, rfl, q, r⟩ := tp.lst l
    rw [Vals.ref1 r1]
    obtain ⟨its, rv, pl, hz⟩ := I1.list q
    refine call_enumerate_list pl.isList fun h' he hit hsz hk => wpAny_pyIter_enum he ?_
    refine ⟨s1.heap.objs.size + 1, [s1.heap.objs.size + 1, s1.heap.objs.size], _, _, H1, rfl, I1.kept (t' := s1.toks) hk, turn_enum a (s1.heap.objs.size + 1) s1.heap.objs.size, ⟨⟨.none, he⟩, hit, Nat.succ_ne_self _⟩, fun b hb => ?_, kk _ W H1 (PSt.refl l).sl (itOk_enum (sta_list st))⟩
    have ge : s1.heap.objs.size ≤ b := by
      rcases List.mem_cons.mp hb with z | z
      · rw [z]; exact Nat.le_succ _
      · rw [List.mem_singleton.mp z]; exact Nat.le_refl _
    exact I1.fpOk ge (I1.hok.fresh ge)
  · cases eg
    cases tp with | cons tp t2 =>
    cases t2
    obtain ⟨a, vs, rfl, q, r⟩ := tp.tup
    rw [Vals.ref1 r1]
    obtain ⟨its, rv, pl, hz⟩ := I1.tuple (q.sq l)
    have lt : a < s1.heap.objs.size := by obtain ⟨o, ho, _⟩ := pl; exact Heap.lt_size ho
    have sz : (s1.heap.push (tuIt a)).objs.size = s1.heap.objs.size + 1 := Heap.size_push ..
    have he : IsEnum ((s1.heap.push (tuIt a)).push (enOb s1.heap.objs.size)) (s1.heap.objs.size + 1) s1.heap.objs.size 0 .none := by
      rw [← sz]
      exact Heap.get?_push_size _ rfl
    refine enum_call pl (wpAny_pyIter_enum he ?_)
    refine ⟨s1.heap.objs.size + 1, [s1.heap.objs.size + 1, s1.heap.objs.size], _, _, H1, rfl, I1.kept (t' := s1.toks) (fun b o e => Heap.get?_push_of_some _ (Heap.get?_push_of_some _ e)), turn_en (a := a) (Nat.succ_ne_self _) (Nat.ne_of_lt (Nat.lt_succ_of_lt lt)) (Nat.ne_of_lt lt), ⟨⟨.none, he⟩, _, Heap.get?_push_of_some _ (Heap.get?_push_size _ rfl), rfl, rfl⟩, fun b hb => ?_, kk _ W H1 (PSt.refl l).sl (itOk_en (sta_tup st))⟩
    have ge : s1.heap.objs.size ≤ b := by
      rcases List.mem_cons.mp hb with z | z
      · rw [z]; exact Nat.le_succ _
      · rw [List.mem_singleton.mp z]; exact Nat.le_refl _
    exact I1.fpOk ge (I1.hok.fresh ge)
  · cases eg
end
end MP

end
-- MPK
section
/-! MPK: the tables hold, all. -/
namespace MP
open PySem L2 PySem.Spec PyProof.Rows
section
variable {P : Program} {w : World} {K : PySem.W.Frag} {mg : Str → Option Value} {base : Heap} {k : Nat} {N : List Str} {sv : Sv} {X : Cx} {Wx : WX}
theorem tup_ok {es : List Expr} {as : Ta} {kq : Nat} {pos : Pos} (hs : es.all notStar = true) (h : PEs X K Wx es as) : PE X (.Tuple es kq pos) (den K Wx (.mk dTup as)) := by
  refine PE.imp (pe_tup (h.pa hs)) fun σ H Q z => denA_mono (den_mk z) fun vs H1 y => ?_
  obtain ⟨W, ds, o, l, r, e, k1⟩ := y
  unfold dTup at e
  split at e
  · rename_i hl
    cases e
    refine ⟨lim_le (by rw [r.length]; exact hl), fun p hp => ?_⟩
    obtain ⟨q1, q2⟩ := orel_tup l r hp
    exact k1 _ _ _ q1 q2
  · cases e
theorem lst_ok {es : List Expr} {as : Ta} {pos : Pos} (hs : es.all notStar = true) (h : PEs X K Wx es as) : PE X (.List es pos) (den K Wx (.mk dLst as)) := by
  refine PE.imp (pe_lst (h.pa hs)) fun σ H Q z => denA_mono (den_mk z) fun vs H1 y => ?_
  obtain ⟨W, ds, o, l, r, e, k1⟩ := y
  unfold dLst at e
  split at e
  · rename_i hl
    cases e
    refine ⟨lim_le (by rw [r.length]; exact hl), fun p hp => ?_⟩
    obtain ⟨q1, q2⟩ := orel_lst l r hp
    exact k1 _ _ _ q1 q2
  · cases e
theorem dct_ok {pos : Pos} {as : Ta} (h : PEs X K Wx [] as) : PE X (.Dict [] [] pos) (den K Wx (.mk dDct as)) := by
  cases h
  refine PE.imp pe_dnewK fun σ H Q z => ?_
  obtain ⟨W, ds, o, l, r, e, k1⟩ := denA_nil (den_mk z)
  cases r
  cases e
  intro p hp
  refine k1 _ W _ (PSt.fresh l hp) (.new hp (l.no hp) ?_)
  exact MutAt.dK (kvs := []) upd_same .nil
theorem ixp {b : Expr} (h : pIx? b = true) : PlainIx b := fun o i => by
  cases b <;> first | rfl | (simp [pIx?] at h)
theorem rev_ok (C : Cv P w K mg base k N sv X Wx) (hb : ∀ x ∈ bnames, mg x = none) {e : Expr} {as : Ta} {p pos kp cp : Pos} {j : Nat} (hg : glB sv.sc "sorted" = true) (hs : notStar e = true) (h : PEs X K Wx [e] as) :
    PE X (.Call (.Name "sorted" p) [e] [⟨some "reverse", .Constant (.bool true) j cp, kp⟩] pos) (den K Wx (.prim pSrtR as)) := by
  have hg' : Gl X "sorted" := glB_ok (by rw [C.sc]; exact hg)
  have hm : X.mg "sorted" = none := by rw [C.m]; exact hb _ (by decide +kernel)
  have hk : PK X [⟨some "reverse", .Constant (.bool true) j cp, kp⟩] (tCons (tC (.bl true)) tNil) := pk_cons pe_bl pk_nil
  refine PE.imp (pe_callBK (c_srtR C.kk) hg' hm boot_sorted (h.pa (by simp [hs])) hk (by decide +kernel) (by decide +kernel) (by rw [star_cons hs]; rfl) (by rw [star_cons hs]; rfl)) fun σ H Q z => ?_
  exact denA_mono (den_prim z) fun vs H1 y => ⟨rfl, y⟩
theorem isi_ok (C : Cv P w K mg base k N sv X Wx) (hb : ∀ x ∈ bnames, mg x = none) {e : Expr} {as : Ta} {p pt pos : Pos} {t : Str} {T : String} (hg : glB sv.sc "isinstance" = true) (hg2 : glB sv.sc t = true) (ht : tyOfName t = some T) (hs : notStar e = true) (h : PEs X K Wx [e] as) :
    PE X (.Call (.Name "isinstance" p) [e, .Name t pt] [] pos) (den K Wx (.prim (pIsi T) as)) := by
  obtain ⟨t1, t2, t3, t4, t5⟩ := tyOfName_ok ht
  have hg' : Gl X "isinstance" := glB_ok (by rw [C.sc]; exact hg)
  have hm : X.mg "isinstance" = none := by rw [C.m]; exact hb _ (by decide +kernel)
  have hmt : X.mg t = none := by rw [C.m]; exact hb _ t3
  have hgt : Gl X t := glB_ok (by rw [C.sc]; exact hg2)
  cases h with | cons h1 h2 =>
  cases h2
  have pa : PA X [e, .Name t pt] (tCons _ (tCons (tC (.ty T)) tNil)) := pa_cons h1 (pa_cons (pe_bltn hgt hmt t2 rfl t4 t5) pa_nil rfl) (star_cons hs)
  refine PE.imp (pe_callB (c_isi C.kk t1) hg' hm boot_isinstance pa (by decide +kernel) (by decide +kernel) (star_cons hs) rfl) fun σ H Q z => ?_
  exact den_mono (rP_cons z) fun x H1 y => ⟨x, rfl, denA_nil y⟩
theorem spec0_ok (C : Cv P w K mg base k N sv X Wx) (hb : ∀ x ∈ bnames, mg x = none) {e : Expr} {f : Ta → Tm} {es : List Expr} {as : Ta} (hf : spec0 sv.sc e = some (f, es)) (h : PEs X K Wx es as) : PE X e (den K Wx (f as)) := by
  have kk := C.kk
  unfold spec0 at hf
  split at hf
  · cases hf
    exact rP_op2 (r := fun _ _ _ _ => True) h fun t u ha hb => pe_op (pBin_ok kk _) ha hb
  · cases hf
    cases h with | cons h1 h2 =>
    cases h2
    exact PE.imp (pe_un u_neg h1) fun σ H Q z => den_mono (rP_cons z) fun x H1 y => denA_nil y
  · cases hf
    exact slice_ok C h
  · split at hf
    · rename_i hp
      cases hf
      exact rP_op2 (r := fun _ _ _ _ => True) h fun t u ha hb => pe_ix (x_ix kk) ha hb (ixp hp)
    · cases hf
  · rename_i x px e1 t pt pos
    split at hf
    · rename_i hx
      subst hx
      split at hf
      · rename_i hq
        simp only [Bool.and_eq_true] at hq
        cases ht : tyOfName t with
        | none => rw [ht] at hf; cases hf
        | some T =>
          rw [ht] at hf
          cases hf
          exact isi_ok C hb hq.1.1 hq.1.2 ht hq.2 h
      · cases hf
    · split at hf
      · rename_i hq
        simp only [Bool.and_eq_true] at hq
        cases ht : sBlt x with
        | none => rw [ht] at hf; cases hf
        | some T =>
          rw [ht] at hf
          cases hf
          exact sBlt_ok C hb ht hq.1 (by rw [List.all_cons, hq.2]; rfl) h
      · cases hf
  · rename_i x px e1 es1 pos hne
    split at hf
    · rename_i hq
      simp only [Bool.and_eq_true] at hq
      cases ht : sBlt x with
      | none => rw [ht] at hf; cases hf
      | some T =>
        rw [ht] at hf
        cases hf
        exact sBlt_ok C hb ht hq.1 hq.2 h
    · cases hf
  · split at hf
    · rename_i hx
      obtain ⟨hx, hy⟩ := hx
      subst hx hy
      split at hf
      · rename_i hq
        simp only [Bool.and_eq_true] at hq
        cases hf
        exact rev_ok C hb hq.1 hq.2 h
      · cases hf
    · cases hf
  · split at hf
    · rename_i hs
      cases hf
      exact tup_ok hs h
    · cases hf
  · split at hf
    · rename_i hs
      cases hf
      exact lst_ok hs h
    · cases hf
  · cases hf
    exact dct_ok h
  · cases hf
theorem isp0_ok (C : Cv P w K mg base k N sv X Wx) (hb : ∀ x ∈ bnames, mg x = none) {tg e : Expr} {g : List D → Option (List D)} {es : List Expr} {as : Ta} (hf : isp0 sv.sc tg e = some (g, es)) (h : PEs X K Wx es as) : PI X tg e (denI K Wx g as) := by
  have sq : ∀ {as : Ta}, PEs X K Wx [e] as → PI X tg e (denI K Wx gSeq as) := fun {as} h => by
    cases h with | cons h1 h2 =>
    cases h2
    exact pi_seq C.kk h1
  have hm : ∀ y ∈ bnames, X.mg y = none := fun y hy => by rw [C.m]; exact hb y hy
  unfold isp0 at hf
  split at hf
  · rename_i x px a pos
    split at hf
    · rename_i hx
      subst hx
      split at hf
      · rename_i hq
        simp only [Bool.and_eq_true] at hq
        cases hf
        exact pi_rng1 (glB_ok (by rw [C.sc]; exact hq.1)) (hm _ (by decide +kernel)) hq.2 h
      · cases hf
    · split at hf
      · rename_i hx
        subst hx
        split at hf
        · split at hf
          · rename_i hq
            simp only [Bool.and_eq_true] at hq
            cases hf
            exact pi_enm C.kk (glB_ok (by rw [C.sc]; exact hq.1)) (hm _ (by decide +kernel)) hq.2 h
          · cases hf
        · cases hf
      · cases hf
        exact sq h
  · rename_i x px a b pos
    split at hf
    · rename_i hx
      subst hx
      split at hf
      · rename_i hq
        simp only [Bool.and_eq_true] at hq
        cases hf
        exact pi_rng2 (glB_ok (by rw [C.sc]; exact hq.1.1)) (hm _ (by decide +kernel)) hq.1.2 hq.2 h
      · cases hf
    · cases hf
      exact sq h
  · split at hf
    · cases hf
    · cases hf
      exact sq h
  · cases hf
    exact sq h
theorem msp0_ok (C : Cv P w K mg base k N sv X Wx) {e : Expr} {x : Str} {kd : D → Bool} {f : D → List D → Option (D × Ou)} {es : List Expr} {as : Ta} {i : Nat} (hf : msp0 sv.sc e = some (x, kd, f, es)) (hi : N[i]? = some x) (hv : Vis X.env.scope x) (hn : nmB x = true) (h : PEs X K Wx es as) : PE X e (den K Wx (.mth kd f i as)) := by
  have kk := C.kk
  subst kk
  obtain ⟨n1, n2⟩ := nmB_ok hn
  unfold msp0 at hf
  split at hf
  · rename_i y py m ap a cp
    split at hf
    · rename_i hq
      obtain ⟨h1, h2, h3⟩ := hq
      subst h1
      cases hf
      have pv : PE X (.Name x py) (tVar i) := pe_var (by rw [C.n]; exact hi) hv n1 n2
      refine PE.imp (pe_bm (PySem.F.plainAttrs_list) PySem.F.slot_list_append (by rfl) (m_app (K := X.K)) pv (h.pa (by simp [h2])) rfl (by rw [star_cons h2]; rfl) h3 (star_cons h2) rfl) fun σ H Q z => ?_
      obtain ⟨b, W, d, e1, e2, e3, e4⟩ := den_mth z
      refine ⟨.ref b, e1, ?_, e4⟩
      cases e2 with
      | lst hm r => exact .inl ⟨rfl, _, SqL.of hm⟩
      | _ => cases e3
    · cases hf
  · cases hf
end
end MP

end
-- MR1
section
/-! MR1: the rules of dict comprehensions. -/
namespace MP
open PySem L2
section
variable {P : Program} {w : World} {K : PySem.W.Frag} {mg : Str → Option Value} {base : Heap} {k : Nat} {N : List Str} {sv : Sv} {X : Cx} {Wx : WX}
theorem dcE_ok (C : Cv P w K mg base k N sv X Wx) {kx vx tg iter : Expr} {ifs : List Expr} {scope : Scope} {pos : Pos} {p : LcP} {tk : Tm} (L : LcOk K X Wx vx tg iter ifs scope p) (pk : ∀ (s : Shared) (H : Hp) (C : Addr) (cl : List (Str × Addr)) (fp : List Addr), PE (X.blk s H scope (compEnvC scope cl C X.env) fp) kx (den K W0x tk)) :
    PE X (.DictComp kx vx [⟨tg, iter, ifs, 0⟩] scope pos) (den K Wx (dcT (p, tk))) :=
  PE.imp (pe_dc C.calm (by rw [C.n]; exact C.nd) L.pi L.blk L.pg L.pt pk L.pe L.hs) fun σ H Q h => den_dc L.own h
theorem dcS_ok (C : Cv P w K mg base k N sv X Wx) {kx vx tg iter : Expr} {ifs : List Expr} {scope : Scope} {pos py spos : Pos} {p : LcP} {tk : Tm} {i : Nat} {y : Str} {fu : Nat} (L : LcOk K X Wx vx tg iter ifs scope p) (pk : ∀ (s : Shared) (H : Hp) (C : Addr) (cl : List (Str × Addr)) (fp : List Addr), PE (X.blk s H scope (compEnvC scope cl C X.env) fp) kx (den K W0x tk))
    (hy : X.N[i]? = some y) (hl : X.env.scope.names.lookup y = some .local) (hsw : swapsWith (.DictComp kx vx [⟨tg, iter, ifs, 0⟩] scope pos) (some (.Name y py)) spos.line X.env = pure true) :
    PS X (.Assign [.Name y py] (.DictComp kx vx [⟨tg, iter, ifs, 0⟩] scope pos) spos) (denS K Wx fu (.set i (dcT (p, tk)))) := by
  have nd : X.N.Nodup := by rw [C.n]; exact C.nd
  refine ⟨fun pins s σ H D I h0 => ?_⟩
  have h : tDc (denI K Wx p.g p.as) (denG K p.tg) (denT K W0x p.c) (den K W0x tk) (den K W0x p.e) (p.own.map (·.2)) σ H (fun x H1 => gName i x σ H1 D.nx) := den_dc L.own (denS_set h0)
  rw [exec_Assign_Name_used _ _ _ _ hsw]
  refine wpAny_bind (wpAny_standAt (wpAny_bind ?_))
  show wpAny _ X.A (do let _ ← comprehension (.DictComp kx vx [⟨tg, iter, ifs, 0⟩] scope pos) scope X.env (firstIterPos [⟨tg, iter, ifs, 0⟩] pos) newDict false (eval iter X.env) (some (assign (.Name y py) X.env))) _ _ s
  refine wpAny_bind (thn (dc_core (Qf := fun _ s' => SP X pins D .next s') C.calm nd I L.pi L.blk L.pg L.pt pk L.pe L.hs h fun Da Ca s' m H' I' q hn f => ?_) fun _ s' hq => wpAny_pure (wpAny_pure hq))
  show wpAny _ _ (assign (.Name y py) X.env (.ref Da)) _ _ _
  refine wpAny_assign_Name (store_ok2 (v := V.ref Da) I' nd hy (.inl hl) rfl (fun s2 I2 z => ?_) (.inr hl))
  obtain ⟨a, sb, ha⟩ := z
  obtain ⟨f0, f1, f2, f3, f4, f5⟩ := f
  have ne : Ca ≠ a := ha.elim (fun e => by rw [e]; exact f1) fun e e' => f4 y a e e'.symm
  exact ⟨m, hn.sameBut sb ne, fun h3 sb3 => ⟨_, H', I2.turned (t' := s2.toks) (fun b o hb e => (sb3.2 b hb).trans e) f0 f1 f3 f4 f5, q⟩⟩
end
end MP

end
-- MR2
section
/-! MR2: more built-ins. -/
namespace MP
open PySem L2 PySem.Spec PyProof.Rows
/-- l.pop(i) -/
def mPop : D → List D → Option (D × Ou)
  | .lst xs, [.int i] => (match ixN xs.length i with
    | some j => (match xs[j]? with
      | some d => if -R62 ≤ i ∧ i < R62 then some (.lst (xs.eraseIdx j), .dat d) else none
      | none => none)
    | none => none)
  | _, _ => none
/-- l.index(k) -/
def idxI (k : Int) : List Int → Option Nat
  | [] => none
  | x :: r => if x = k then some 0 else (idxI k r).map (· + 1)
def pIdx : List D → Option Ou
  | [.lst xs, .int k] => (match ints? xs with
    | some ns => (idxI k ns).map fun j => .dat (.int (j : Nat))
    | none => none)
  | _ => none
/-- list(range(j)) -/
def pLRg : List D → Option Ou
  | [.int j] => if -R62 ≤ j ∧ j ≤ LIM then some (.new (.lst (rngD 0 j))) else none
  | _ => none
/-- l[::-1] -/
def pRev : List D → Option Ou
  | [.lst xs] => some (.new (.lst xs.reverse))
  | _ => none
/-- list(d) -/
def pLstD : List D → Option Ou
  | [.dct ks _] => if ks.all kK = true then some (.new (.lst ks)) else none
  | _ => none
/-- {k: v} -/
def dDc1 : List D → Option Ou
  | [k, v] => if kK k = true then some (.new (.dct [k] [v])) else none
  | _ => none
theorem idxI_ok {k : Int} : ∀ {ns : List Int} {j : Nat}, idxI k ns = some j → ns[j]? = some k ∧ ∀ m z, m < j → ns[m]? = some z → z ≠ k
  | [], j, h => by cases h
  | x :: r, j, h => by
    unfold idxI at h
    split at h
    · rename_i e
      cases h
      exact ⟨by rw [e]; rfl, fun m z hm _ => absurd hm (Nat.not_lt_zero _)⟩
    · rename_i e
      cases q : idxI k r with
      | none => rw [q] at h; cases h
      | some j' =>
        rw [q] at h
        cases h
        obtain ⟨a, b⟩ := idxI_ok q
        refine ⟨by simpa using a, fun m z hm hz => ?_⟩
        cases m with
        | zero =>
          simp at hz
          rw [← hz]; exact e
        | succ m => exact b m z (Nat.lt_of_succ_lt_succ hm) (by simpa using hz)
section
variable {P : Program} {w : World} {K : PySem.W.Frag} {mg : Str → Option Value} {base : Heap} {k : Nat} {N : List Str} {sv : Sv} {X : Cx} {Wx : WX}
theorem DrA.erase {W : Hp} : ∀ {vs : List V} {ds : List D} (j : Nat), DrA K W vs ds → DrA K W (vs.eraseIdx j) (ds.eraseIdx j)
  | _, _, _, .nil => by simp; exact .nil
  | _, _, 0, .cons h r => by simpa using r
  | _, _, j + 1, .cons h r => by simpa using DrA.cons h (DrA.erase j r)
theorem m_pop : MtM X "list.pop" (rM K mPop) := by
  intro pins s σ H x xs v us Q I rx rv h
  obtain ⟨a, W, d, ds, d', o, rfl, hw, l, m, r, e, k⟩ := h
  refine mt_popAt pins s σ H _ xs v us Q I rx rv ?_
  unfold mPop at e
  split at e
  rotate_left
  · cases e
  rename_i ys i
  split at e
  rotate_left
  · cases e
  rename_i j ej
  split at e
  rotate_left
  · cases e
  rename_i d0 ed
  split at e
  rotate_left
  · cases e
  rename_i hi
  cases e
  cases m with | lst hm rm =>
  cases r with | cons r1 r2 =>
  cases r2
  cases r1
  obtain ⟨y, e1, e2⟩ := rm.get ed
  obtain ⟨q1, q2, _⟩ := ixN_seq ej
  unfold R62 at hi
  refine ⟨a, _, i, j, y, rfl, rfl, hm, by omega, by omega, by rw [rm.length]; exact q1, e1, ?_⟩
  exact k _ W _ (MSt.lst hw l hm (rm.erase j)) (.dat e2)
theorem m_idx (hk : X.K = K) : MtR X "list.index" (fun x xs => rP K pIdx (x :: xs)) := by
  subst hk
  intro pins s σ H x xs v us Q I rx rxs h
  obtain ⟨W, ds, o, l, tp, e, k1⟩ := h
  refine mt_index pins s σ H x xs v us Q I rx rxs ?_
  unfold pIdx at e
  split at e
  rotate_left
  · cases e
  rename_i ys z
  split at e
  rotate_left
  · cases e
  rename_i ns ei
  cases tp with | cons t1 tp =>
  cases tp with | cons t2 tp =>
  cases tp
  obtain ⟨a, rfl, sq⟩ := t1.ints l ei
  have := t2.int
  subst this
  cases ej : idxI z ns with
  | none => rw [ej] at e; cases e
  | some j =>
    rw [ej] at e
    cases e
    obtain ⟨q1, q2⟩ := idxI_ok ej
    refine ⟨a, ns.map V.int, .int z, j, .int z, rfl, rfl, sq, rfl, by simp [flatV], by rw [List.getElem?_map, q1]; rfl, by simp [eqV], fun m z' hm hz => ?_, k1 _ W H (PSt.refl l) (.dat (.int _))⟩
    rw [List.getElem?_map] at hz
    cases q : ns[m]? with
    | none => rw [q] at hz; cases hz
    | some n =>
      rw [q] at hz
      cases hz
      simpa [eqV] using q2 m n hm q
theorem drRg {W : Hp} (a b : Int) : DrA K W (rgV a b) (rngD a b) := by
  have e1 : rgV a b = ((List.range (b - a).toNat).map fun i => a + ((i : Nat) : Int)).map V.int := by unfold rgV; rw [List.map_map]; rfl
  have e2 : rngD a b = ((List.range (b - a).toNat).map fun i => a + ((i : Nat) : Int)).map D.int := by unfold rngD; rw [List.map_map]; rfl
  rw [e1, e2]
  exact DrA.ints
theorem lrg_ok (C : Cv P w K mg base k N sv X Wx) (hm : ∀ x ∈ (["list", "range"] : List Str), mg x = none) {e : Expr} {as : Ta} {p p2 q pos : Pos} (hg : glB sv.sc "list" = true) (hg2 : glB sv.sc "range" = true) (hs : notStar e = true) (h : PEs X K Wx [e] as) :
    PE X (.Call (.Name "list" p) [.Call (.Name "range" p2) [e] [] q] [] pos) (den K Wx (.prim pLRg as)) := by
  have kk := C.kk
  have hm' : ∀ x ∈ (["list", "range"] : List Str), X.mg x = none := fun x hx => by rw [C.m]; exact hm x hx
  subst kk
  cases h with | cons h1 h2 =>
  cases h2
  refine PE.imp (pe_listRg C.calm (glB_ok (by rw [C.sc]; exact hg)) (hm' _ (by simp)) (prg_1 (p := p2) (pos := q) (glB_ok (by rw [C.sc]; exact hg2)) (hm' _ (by simp)) h1 (star_cons hs))) fun σ H Q z => ?_
  show den X.K Wx _ σ H (fun x H1 => ∃ n, x = .int n ∧ (RgOk 0 n ∧ ∀ q, H1 q = none → Q (.ref q) (upd H1 q (.lst (rgV 0 n)))))
  refine den_mono (den_prim1 z) fun x H1 y => ?_
  obtain ⟨W, ds, o, l, tp, e1, k1⟩ := y
  cases tp with | cons t tp =>
  cases tp
  unfold pLRg at e1
  split at e1
  · rename_i j ej
    cases ej
    split at e1
    · rename_i hj
      cases e1
      have := t.int
      subst this
      unfold R62 LIM at hj
      refine ⟨j, rfl, ⟨by decide, by decide, by omega, by omega, by omega⟩, fun q hq => ?_⟩
      obtain ⟨q1, q2⟩ := orel_lst (K := X.K) l (drRg 0 j) hq
      exact k1 _ _ _ q1 q2
    · cases e1
  · cases e1
theorem rev_ok' (C : Cv P w K mg base k N sv X Wx) {e : Expr} {as : Ta} {j : Nat} {p1 p2 p3 pos : Pos} (h : PEs X K Wx [e] as) : PE X (.Subscript e (.Slice none none (some (.UnaryOp .USub (.Constant (.int 1) j p1) p2)) p3) pos) (den K Wx (.prim pRev as)) := by
  have kk := C.kk
  subst kk
  cases h with | cons h1 h2 =>
  cases h2
  refine PE.imp (pe_revL h1) fun σ H Q z => den_mono (den_prim1 z) fun x H1 y => ?_
  obtain ⟨W, ds, o, l, tp, e1, k1⟩ := y
  cases tp with | cons t tp =>
  cases tp
  unfold pRev at e1
  split at e1
  · rename_i xs ej
    cases ej
    cases e1
    obtain ⟨a, vs, rfl, sq, r⟩ := t.lst l
    refine ⟨a, vs, rfl, sq, fun p hp => ?_⟩
    obtain ⟨q1, q2⟩ := orel_lst (K := X.K) l r.reverse hp
    exact k1 _ _ _ q1 q2
  · cases e1
theorem c_lstD (C : Cv P w K mg base k N sv X Wx) : CallR X (.type "list") (rP K pLstD) := by
  have kk := C.kk
  subst kk
  intro pins s σ H xs us Q I r h
  obtain ⟨W, ds, o, l, tp, e, k1⟩ := h
  refine call_listD C.calm pins s σ H xs us Q I r ?_
  unfold pLstD at e
  split at e
  rotate_left
  · cases e
  split at e
  rotate_left
  · cases e
  rename_i ks vs hks
  cases e
  cases tp with | cons t tp =>
  cases tp
  obtain ⟨a, rfl, h1⟩ := t.dct l
  have fin : ∀ kvs : List (Key × V), Rd H a (.dK kvs) → ks = kvs.map (fun p => kD p.1) → ∃ (a' : Addr) (kvs : List (Key × V)), [V.ref a] = [.ref a'] ∧ Rd H a' (.dK kvs) ∧ ∀ p, H p = none → Q (.ref p) (upd H p (.lst (kvs.map fun kv => kV kv.1))) := fun kvs rd ek => by
    subst ek
    refine ⟨a, kvs, rfl, rd, fun p hp => ?_⟩
    have r : DrA X.K W (kvs.map fun kv => kV kv.1) (kvs.map fun kv => kD kv.1) := by
      have := drKeys (K := X.K) (W := W) (kvs.map (·.1))
      rw [List.map_map, List.map_map] at this
      exact this
    obtain ⟨q1, q2⟩ := orel_lst (K := X.K) l r hp
    exact k1 _ _ _ q1 q2
  rcases h1 with ⟨kvs, rd, ek, _⟩ | ⟨kvs, ne, rd, ek, _⟩
  · exact fin kvs rd ek
  · exfalso
    subst ek
    cases kvs with
    | nil => exact ne rfl
    | cons a r => simp [kK] at hks
end
end MP

end
-- MR3
section
/-! MR3: {k: v}; isinstance of own classes; written dicts. -/
namespace MP
open PySem L2 PySem.Spec PyProof.Rows
section
variable {K : PySem.W.Frag} {Wx : WX} {σ : L2.St} {H : Hp} {Q : VK} {c c0 : Cf} {p : Addr} {o : HO}
theorem Rel.updF (R : Rel K c) (hW : c.W p = none) (na : ¬ c.ad p) : Rel K ⟨c.E, c.W, c.Γ, c.σ, upd c.H p o⟩ := by
  refine ⟨R.len, fun a u e => ?_, fun a z => ?_, R.dat, fun j b d g => ?_, R.dist⟩
  · have ne : a ≠ p := fun z => by
      have e' : c.W a = some u := e
      rw [z, hW] at e'
      cases e'
    rcases R.le a u e with w | ⟨ob, w, tt⟩
    · exact .inl (by show upd c.H p _ a = _; rw [upd_ne ne]; exact w)
    · exact .inr ⟨ob, by show upd c.H p _ a = _; rw [upd_ne ne]; exact w, tt⟩
  · show upd c.H p _ a ≠ none
    by_cases q : a = p
    · subst q; rw [upd_same]; exact nofun
    · rw [upd_ne q]; exact R.ent a z
  · obtain ⟨a, e1, e2, e3, e4⟩ := R.am j b d g
    have ne : a ≠ p := fun z => na ⟨j, ⟨b, d, g⟩, z ▸ e1⟩
    exact ⟨a, e1, e2, e3.mono (Ex.refl _) fun u w => by show upd c.H p _ a = _; rw [upd_ne ne]; exact w, e4⟩
theorem Stp.updF (S : Stp c0 c) (h0 : c0.H p = none) : Stp c0 ⟨c.E, c.W, c.Γ, c.σ, upd c.H p o⟩ := by
  refine ⟨S.ent, S.w, fun a u e n gd => ?_, fun a z => ?_, S.nw, S.mu, S.ad, S.lk, S.io⟩
  · have ne : a ≠ p := fun z => by rw [z, h0] at e; cases e
    show upd c.H p _ a = _
    rw [upd_ne ne]
    exact S.fr a u e n gd
  · show upd c.H p _ a ≠ none
    by_cases w : a = p
    · subst w; rw [upd_same]; exact nofun
    · rw [upd_ne w]; exact S.th a z
theorem den_dc1 {as : Ta} (h : den K Wx (.mk dDc1 as) σ H Q) (hp : H p = none) :
    denA K Wx as σ (upd H p (.dK [])) fun vs H2 => ∃ key y, vs = [kV key, y] ∧ H2 p = some (.dK []) ∧ Q (.ref p) (upd H2 p (.dK [(key, y)])) := by
  obtain ⟨E, W, Γ, R, h⟩ := h
  simp only [ev] at h
  have nad : ¬ Cf.ad ⟨E, W, Γ, σ, H⟩ p := fun z => (R.ad_ne z).1 hp
  have wp : W p = none := R.le.no hp
  obtain ⟨R0, S0⟩ := R.pst (PSt.fresh (o := .dK []) R.le hp)
  refine ⟨E, W, Γ, R0, (h.bind0.later S0 rfl).imp fun ls c1 R1 S1 es h1 vs V1 => ?_⟩
  obtain ⟨E1, W1, Γ1, σ1, H1⟩ := c1
  cases es
  obtain rfl : E1 = E := S1.ent
  dsimp only at h1
  cases ee : escA ls Γ1 with
  | stuck => rw [ee] at h1; exact h1.elim
  | exn x Γ2 => exact (escA_ne ee).elim
  | ok ds Γ2 =>
    rw [ee] at h1
    simp only [Rs.bind] at h1
    obtain ⟨W2, R2, S2, d2, x2, y2, m2⟩ := Rel.escA R1 S1 V1.wv ee
    cases ef : dDc1 ds with
    | none => rw [ef] at h1; exact h1.elim
    | some o =>
      rw [ef] at h1
      have nad0 : ¬ Cf.ad ⟨E1, W, Γ, σ, upd H p (.dK [])⟩ p := nad
      have c0p : (Cf.mk E1 W Γ σ (upd H p (.dK []))).H p = some (.dK []) := upd_same
      have hH1 : H1 p = some (.dK []) := S2.fr p _ c0p (fun z => nad0 (Cf.mu_ad z)) (.inl wp)
      have hW2 : W2 p = none := by
        by_cases q : W2 p = none
        · exact q
        · rcases S2.nw p q with w | w | w | ⟨ys, w⟩
          · exact absurd wp w
          · rw [c0p] at w; cases w
          · exact absurd (Cf.mu_ad w) nad0
          · rw [c0p] at w; cases w
      have nad2 : ¬ Cf.ad ⟨E1, W2, Γ2, σ, H1⟩ p := fun z => by
        rcases S2.ad p z with w | w
        · exact nad0 w
        · rw [c0p] at w; cases w
      unfold dDc1 at ef
      split at ef
      rotate_left
      · cases ef
      split at ef
      rotate_left
      · cases ef
      rename_i dk dv hk
      cases ef
      cases d2 with | cons e1 d2 =>
      cases d2 with | cons e2 d2 =>
      cases d2
      rename_i y
      obtain ⟨key, ek, rfl⟩ := kK_key hk (Top.dat (H := H1) e1)
      refine ⟨key, y, rfl, hH1, ?_⟩
      have q := h1 W2 _ (R2.updF (p := p) (o := .dK [(key, y)]) hW2 nad2) ((S0.trans S2).updF (p := p) hp) (.ref p)
      refine q (.new hp hW2 (fun z => nad2 z) ?_)
      have := dKey_k ek
      subst this
      exact MutAt.dK (kvs := [(key, y)]) upd_same (.cons e2 .nil)
end
section
variable {P : Program} {w : World} {K : PySem.W.Frag} {mg : Str → Option Value} {base : Heap} {k : Nat} {N : List Str} {sv : Sv} {X : Cx} {Wx : WX}
theorem dc1_ok {kx vx : Expr} {as : Ta} {pos : Pos} (h : PEs X K Wx [kx, vx] as) : PE X (.Dict [some kx] [vx] pos) (den K Wx (.mk dDc1 as)) := by
  cases h with | cons h1 h2 =>
  cases h2 with | cons h2 h3 =>
  cases h3
  refine PE.imp (pe_disp (pps_cons h1 h2 pps_nil) rfl rfl (by simp) (by simp)) fun σ H Q z p hp => ?_
  refine den_mono (denA_cons (den_dc1 z hp)) fun x H1 y => den_mono (denA_cons y) fun x2 H2 y2 => ?_
  obtain ⟨key, v, e, hH, q⟩ := denA_nil y2
  cases e
  exact ⟨hH, [(key, x2)], rfl, by simp, q⟩
end
end MP

end
-- MH
section
/-! MH: what is asked of the laid program: defs by their addresses, facts of classes. -/
namespace MP
open PySem L2 PySem.Spec PyProof.Rows
/-- a def, wherever it stands -/
structure DefM where
  ad : PySem.W.Frag → Addr
  name : Str
  qual : Str
  params : Arguments
  body : List Stmt
  scope : Scope
  dfl : List He.Dv := []
def fnWa (K : PySem.W.Frag) (a : Addr) : He.FnW := match K.lookup a with
  | some ⟨_, _, .func f, _⟩ => some (f.name, f.qualname, f.params, f.body, f.scope, f.globals, f.closure, f.builtins)
  | _ => none
def DefM.val (d : DefM) : He.FnW := some (d.name, d.qual, d.params, .stmts d.body, d.scope, mainGlobals, [], builtinsNs)
def DefM.dvs (d : DefM) (K : PySem.W.Frag) : List V := d.dfl.map (He.Dv.v K)
def DefM.ok (d : DefM) (K : PySem.W.Frag) : Bool := PySem.W.keepIn K (.ref (d.ad K)) && (match K.lookup (d.ad K) with
  | some ⟨_, _, .func f, _⟩ => PySem.W.codeIn K f.code d.qual && He.dflB K f.defaults (d.dvs K)
  | _ => false)
theorem DefM.funD {K : PySem.W.Frag} {d : DefM} (e : fnWa K (d.ad K) = d.val) (c : d.ok K = true) : ∃ fd, FunD K d.name d.qual d.params d.body d.scope (d.dvs K) [] (d.ad K) fd := by
  unfold DefM.ok at c
  rw [Bool.and_eq_true] at c
  obtain ⟨kp, c⟩ := c
  unfold fnWa at e
  split at c
  rotate_left
  · cases c
  rename_i oc od f sl q
  rw [q] at e
  rw [Bool.and_eq_true] at c
  obtain ⟨n1, n2, n3, n4, n5, n6, n7, n8, n9, n10, n11, n12, n13, n14, n15⟩ := f
  have e' : (some (n1, n2, n3, n4, n5, n6, n7, n15) : He.FnW) = d.val := e
  unfold DefM.val at e'
  simp only [Option.some.injEq, Prod.mk.injEq] at e'
  obtain ⟨rfl, rfl, rfl, rfl, rfl, rfl, rfl, rfl⟩ := e'
  exact ⟨_, ⟨oc, od, n8, n9, n10, n11, n12, n13, n14, sl, rfl, q, c.1, He.dflB_ok c.2, .inl rfl⟩, kp⟩
/-- where things stand -/
def gAd (x : Str) (K : PySem.W.Frag) : Addr := He.ga K x
def mAd (c m : Str) (K : PySem.W.Frag) : Addr := He.ma K (He.ga K c) m
def pAd (c m : Str) (K : PySem.W.Frag) : Addr := match PySem.W.recIn K (mAd c m K) "property" with
  | some (.ref g :: _) => g
  | _ => 0
def tys7 : List String := ["NoneType", "bool", "int", "str", "tuple", "list", "dict"]
def entB : List DictEntry → List (Str × Int) → Bool
  | [], [] => true
  | e :: es, (k, i) :: r => (match e.key, e.val with
    | .str x _, .int j _ => decide (x = k) && decide (j = i)
    | _, _ => false) && entB es r
  | _, _ => false
def wdB (K : PySem.W.Frag) (x : Str) (kvs : List (Str × Int)) : Bool := match K.lookup (He.ga K x) with
  | some ⟨_, _, .dict es _, _⟩ => entB es.toList kvs
  | _ => false
/-- facts -/
inductive Fb where
  | fa (f : He.Fa)
  | prop (c m : Str)
  | isi (c C : Str) (b : Bool)
  | isn (C : Str)
  | eqs (c : Str)
  | dtup (f : Str × Option Str) (i : Nat)
  | wd (x : Str) (kvs : List (Str × Int))
def Fb.ok (K : PySem.W.Frag) : Fb → Bool
  | .fa f => f.ok K
  | .prop c m => decide (PySem.W.findIn K (.ref (He.ga K c)) m = some (some (.ref (mAd c m K)))) && decide (PySem.W.specialIn K (.ref (mAd c m K)) "__get__" = some (some (.builtin "property.__get__"))) &&
      decide (PySem.W.takesIn K (.ref (mAd c m K)) = some true) && (match PySem.W.recIn K (mAd c m K) "property" with
        | some (.ref _ :: _) => true
        | _ => false)
  | .isi c C b => decide (PySem.W.findIn K (.ref (He.ga K c)) "__class__" = some (some (.builtin "object.__class__"))) && decide (PySem.W.specialIn K (.builtin "object.__class__") "__get__" = some (some (.builtin "getset_descriptor.__get__"))) &&
      decide (PySem.W.takesIn K (.builtin "object.__class__") = some true) && decide (PySem.W.mroIn K (He.ga K c) (.type "object") = some true) && decide (PySem.W.kitOne K (.ref (He.ga K c)) (.ref (He.ga K C)) = some b)
  | .isn C => tys7.all fun T => decide (PySem.W.kitOne K (.type T) (.ref (He.ga K C)) = some false)
  | .eqs c => decide (PySem.W.findIn K (.ref (He.ga K c)) "__ne__" = some (some (.builtin "object.__ne__"))) && decide (PySem.W.subIn K (.ref (He.ga K c)) (.type "object") = some true)
  | .dtup f i => (match K.lookup (He.dflAt f i K) with
    | some ⟨.type t, _, .seq its _, _⟩ => decide (t = "tuple") && its.isEmpty
    | _ => false)
  | .wd x kvs => wdB K x kvs
abbrev AlM : Type := Bool × List He.FnW × List (Option (List (Option (Str × Int))))
def obsM (fs : List Fb) (fn : List DefM) (ts : List He.Tab) (K : PySem.W.Frag) : AlM := ((fs.all fun f => f.ok K) && fn.all fun d => d.ok K, fn.map fun d => fnWa K (d.ad K), ts.map fun t => He.dicW K (t.1 K))
def valM (fn : List DefM) (ts : List He.Tab) (w : World) : AlM := (true, fn.map DefM.val, ts.map fun t => some (He.keysIn w.params t.2))
def SaysM (fs : List Fb) (fn : List DefM) (ts : List He.Tab) (w : World) (K : PySem.W.Frag) : Prop := obsM fs fn ts K = valM fn ts w
def obsMG (n : Nat) (fs : List Fb) (fn : List DefM) (ts : List He.Tab) (g : Addr → Option Obj) : AlM := obsM fs fn ts (He.frG g (He.asD g n))
def hookM (n : Nat) (fs : List Fb) (fn : List DefM) (ts : List He.Tab) : PySem.W.Hook where
  α := AlM
  obs := fun s => obsMG n fs fn ts s.heap.get?
  val := valM fn ts
  says := fun w h => ∃ K : PySem.W.Frag, K.In h ∧ SaysM fs fn ts w K
  of := fun _ _ e => ⟨_, He.frG_in, e⟩
  keeps := fun _ _ _ ⟨K, hK, c⟩ kp => ⟨K, PySem.W.Frag.In.keeps hK kp, c⟩
theorem obsMG_eq {n : Nat} {fs : List Fb} {fn : List DefM} {ts : List He.Tab} {g : Addr → Option Obj} {s : Shared} (h : ∀ a, g a = s.heap.get? a) : obsMG n fs fn ts g = (hookM n fs fn ts).obs s := by
  obtain rfl : g = s.heap.get? := funext h
  rfl
section
variable {fs : List Fb} {fn : List DefM} {ts : List He.Tab} {w : World} {K : PySem.W.Frag}
theorem SaysM.fact (c : SaysM fs fn ts w K) (i : Nat) {f : Fb} (h : fs[i]? = some f := by rfl) : f.ok K = true := by
  have e : ((fs.all fun f => f.ok K) && fn.all fun d => d.ok K) = true := congrArg (fun z : AlM => z.1) c
  rw [Bool.and_eq_true] at e
  exact List.all_eq_true.mp e.1 f (List.mem_of_getElem? h)
theorem SaysM.def_ (c : SaysM fs fn ts w K) (i : Nat) {d : DefM} (h : fn[i]? = some d := by rfl) : ∃ fd, FunD K d.name d.qual d.params d.body d.scope (d.dvs K) [] (d.ad K) fd := by
  have e : ((fs.all fun f => f.ok K) && fn.all fun d => d.ok K) = true := congrArg (fun z : AlM => z.1) c
  rw [Bool.and_eq_true] at e
  have e1 : fn.map (fun d => fnWa K (d.ad K)) = fn.map DefM.val := congrArg (fun z : AlM => z.2.1) c
  have e2 := congrArg (·[i]?) e1
  simp only [List.getElem?_map, h, Option.map_some, Option.some.injEq] at e2
  exact DefM.funD e2 (List.all_eq_true.mp e.2 d (List.mem_of_getElem? h))
theorem SaysM.tab (c : SaysM fs fn ts w K) (i : Nat) {t : He.Tab} (h : ts[i]? = some t := by rfl) : ∃ es n, KDict K w (t.1 K) es n := by
  have e1 : ts.map (fun t => He.dicW K (t.1 K)) = ts.map fun t => some (He.keysIn w.params t.2) := congrArg (fun z : AlM => z.2.2) c
  have e2 := congrArg (·[i]?) e1
  simp only [List.getElem?_map, h, Option.map_some, Option.some.injEq] at e2
  exact He.dicW_ok e2
theorem prop_of {c m : Str} (h : (Fb.prop c m).ok K = true) : PropOf K (He.ga K c) m (mAd c m K) (pAd c m K) := by
  unfold Fb.ok at h
  simp only [Bool.and_eq_true, decide_eq_true_eq] at h
  obtain ⟨⟨⟨h1, h2⟩, h3⟩, h4⟩ := h
  refine ⟨h1, h2, h3, ?_⟩
  unfold pAd
  split at h4
  · rename_i g r q
    exact ⟨r, by rw [q]⟩
  · cases h4
theorem dtup_of {f : Str × Option Str} {i : Nat} (h : (Fb.dtup f i).ok K = true) (W : Hp) : Dr K W (.ref (He.dflAt f i K)) (.tup []) := by
  simp only [Fb.ok] at h
  split at h
  · rename_i t dd its n sl q
    simp only [Bool.and_eq_true, decide_eq_true_eq] at h
    obtain ⟨rfl, h2⟩ := h
    have : its = #[] := Array.isEmpty_iff.mp h2
    subst this
    exact .tup (.inr ⟨rfl, _, #[], n, q, rfl, rfl, by simp, .nil⟩) .nil
  · cases h
end
/-- isinstance(x, C) of an own class: which classes' objects are -/
def pIsC (bs : List (Str × Bool)) : List D → Option Ou
  | [.obj c _ _] => (bs.lookup c).map fun b => .dat (.bl b)
  | [_] => some (.dat (.bl false))
  | _ => none
section
variable {P : Program} {w : World} {K : PySem.W.Frag} {mg : Str → Option Value} {base : Heap} {k : Nat} {N : List Str} {sv : Sv} {X : Cx} {Wx : WX}
def IsOk (K : PySem.W.Frag) (C : Str) (bs : List (Str × Bool)) : Prop := (Fb.isn C).ok K = true ∧ ∀ p ∈ bs, Cls K (He.ga K p.1) ∧ (Fb.isi p.1 C p.2).ok K = true
theorem c_isC (hk : X.K = K) {C : Str} {bs : List (Str × Bool)} (h0 : IsOk K C bs) : CallR X (.builtin "isinstance") (fun xs H Q => ∃ x, xs = [x, .ref (He.ga K C)] ∧ rP K (pIsC bs) [x] H Q) := by
  subst hk
  intro pins s σ H xs us Q I r h
  obtain ⟨x, rfl, W, ds, o, l, tp, e, k1⟩ := h
  obtain ⟨u1, u2, rfl, r1, r2⟩ := vals2 r
  cases r2
  cases tp with | cons tp t2 =>
  cases t2
  rename_i d
  cases ob : isObjD d with
  | false =>
    have e' : o = .dat (.bl false) := by
      cases d <;> first | (cases e; rfl) | cases ob
    subst e'
    obtain ⟨PP, Z, p, hx⟩ := tyD I rfl l tp ob r1
    have q := List.all_eq_true.mp h0.1 (tyN d) (tyN_mem ob)
    exact PySem.W.kia_one Z I.kIn p (of_decide_eq_true q) hx fun tk => ⟨.bl _, H, I.tok tk, rfl, k1 _ W H (PSt.refl l) (.dat (.bl _))⟩
  | true =>
    cases d with
    | obj c ns vs =>
      simp only [pIsC] at e
      cases q : bs.lookup c with
      | none => rw [q] at e; cases e
      | some b =>
        rw [q] at e
        cases e
        obtain ⟨cl, fb⟩ := h0.2 _ (lkm q)
        simp only [Fb.ok, Bool.and_eq_true, decide_eq_true_eq] at fb
        obtain ⟨⟨⟨⟨f1, f2⟩, f3⟩, f4⟩, f5⟩ := fb
        obtain ⟨a, dx, fs, rfl, rd, _, _⟩ := tp.obj l
        cases r1
        obtain ⟨mA, O, _⟩ := ins_rd I.hok rd
        obtain ⟨od, J, _⟩ := O.look
        exact PySem.W.kia_one (PySem.W.kitx_own (cl.get _) cl.hd f1 f2 f3 f4) I.kIn J f5 (fun z => nomatch z) fun tk => ⟨.bl b, H, I.tok tk, rfl, k1 _ W H (PSt.refl l) (.dat (.bl b))⟩
    | _ => cases ob
theorem isC_ok (C : Cv P w K mg base k N sv X Wx) {D : Str} {bs : List (Str × Bool)} (h0 : IsOk K D bs) (hm : mg "isinstance" = none) (hD : mg D = some (.ref (He.ga K D))) {e : Expr} {as : Ta} {p pt pos : Pos} (hg : glB sv.sc "isinstance" = true) (hg2 : glB sv.sc D = true) (hn : nmB D = true) (hs : notStar e = true) (h : PEs X K Wx [e] as) :
    PE X (.Call (.Name "isinstance" p) [e, .Name D pt] [] pos) (den K Wx (.prim (pIsC bs) as)) := by
  cases h with | cons h1 h2 =>
  cases h2
  have g1 : Gl X "isinstance" := glB_ok (by rw [C.sc]; exact hg)
  have g2 : Gl X D := glB_ok (by rw [C.sc]; exact hg2)
  have pa : PA X [e, .Name D pt] (tCons _ (tCons (tC (.ref (He.ga K D))) tNil)) := pa_cons h1 (pa_cons (pe_glob (v := .ref (He.ga K D)) g2 (by rw [C.m]; exact hD) rfl (nmB_ok hn).1) pa_nil rfl) (star_cons hs)
  refine PE.imp (pe_callB (c_isC C.kk h0) g1 (by rw [C.m]; exact hm) boot_isinstance pa (by decide +kernel) (by decide +kernel) (star_cons hs) rfl) fun σ H Q z => ?_
  exact den_mono (rP_cons z) fun x H1 y => ⟨x, rfl, denA_nil y⟩
/-- a written dict with texts for keys, numbers for values -/
def pKIn (neg : Bool) (kvs : List (Str × Int)) : List D → Option Ou
  | [.str x] => some (.dat (.bl (if neg then !(kvs.lookup x).isSome else (kvs.lookup x).isSome)))
  | _ => none
def pKIx (kvs : List (Str × Int)) : List D → Option Ou
  | [.str x] => (kvs.lookup x).map fun i => .dat (.int i)
  | _ => none
end
end MP

end
-- MW
section
/-! MW: written dicts: texts to numbers. -/
namespace MP
open PySem L2 PySem.Spec PyProof.Rows
theorem entB_ok {z : Str} : ∀ {es : List DictEntry} {kvs : List (Str × Int)}, entB es kvs = true → (es.any (·.refKey)) = false ∧ (match kvs.lookup z with
    | some i => ∃ e t, es.find? (·.key.isStr z) = some e ∧ e.val = .int i t
    | none => es.find? (·.key.isStr z) = none)
  | [], [], _ => ⟨rfl, rfl⟩
  | [], _ :: _, h => by cases h
  | _ :: _, [], h => by cases h
  | e :: es, (k, i) :: r, h => by
    unfold entB at h
    rw [Bool.and_eq_true] at h
    obtain ⟨h1, h2⟩ := h
    obtain ⟨i1, i2⟩ := entB_ok (z := z) h2
    obtain ⟨eh, ek, ev⟩ := e
    split at h1
    rotate_left
    · cases h1
    rename_i x t1 j t2 q1 q2
    dsimp only at q1 q2
    subst q1 q2
    simp only [Bool.and_eq_true, decide_eq_true_eq] at h1
    obtain ⟨rfl, rfl⟩ := h1
    refine ⟨by simpa [DictEntry.refKey] using i1, ?_⟩
    rw [List.lookup_cons, List.find?_cons]
    by_cases c : z = x
    · subst c
      have e1 : (z == z) = true := by simp
      have e2 : (Value.str z t1).isStr z = true := by simp [Value.isStr]
      rw [e1, e2]
      exact ⟨_, t2, rfl, rfl⟩
    · have e1 : (z == x) = false := by simpa using c
      have e2 : (Value.str x t1).isStr z = false := by simpa [Value.isStr] using fun h => c h.symm
      rw [e1, e2]
      exact i2
theorem wd_ns {K : PySem.W.Frag} {x : Str} {kvs : List (Str × Int)} (h : wdB K x kvs = true) (z : Str) : match kvs.lookup z with
    | some i => ∃ t, PySem.W.nsIn K (He.ga K x) z = some (some (.int i t))
    | none => PySem.W.nsIn K (He.ga K x) z = some none := by
  unfold wdB at h
  split at h
  rotate_left
  · cases h
  rename_i oc od es n sl q
  obtain ⟨h1, h2⟩ := entB_ok (z := z) h
  unfold PySem.W.nsIn
  rw [q]
  dsimp only
  split at h2
  · obtain ⟨e, t, h2, h3⟩ := h2
    rw [h2]
    exact ⟨t, congrArg (fun v => some (some v)) h3⟩
  · rw [h2, h1]
    rfl
section
variable {P : Program} {w : World} {K : PySem.W.Frag} {mg : Str → Option Value} {base : Heap} {k : Nat} {N : List Str} {sv : Sv} {X : Cx} {Wx : WX}
def WdOk (K : PySem.W.Frag) (w : World) (mg : Str → Option Value) (x : Str) (kvs : List (Str × Int)) : Prop := mg x = some (.ref (He.ga K x)) ∧ wdB K x kvs = true ∧ ∃ es n, KDict K w (He.ga K x) es n
theorem wdIn (C : Cv P w K mg base k N sv X Wx) {x : Str} {kvs : List (Str × Int)} (h : WdOk K w mg x kvs) (neg : Bool) : OpR X (compareOp (if neg then .NotIn else .In)) (fun a b H Q => b = .ref (He.ga K x) ∧ rP K (pKIn neg kvs) [a] H Q) := by
  obtain ⟨h1, h2, es, n, kd⟩ := h
  have kk := C.kk; have hw := C.w
  subst kk hw
  intro pins s σ H a b v u Q I ra rb q
  obtain ⟨rfl, W, ds, o, l, tp, e, k1⟩ := q
  cases tp with | cons t tp =>
  cases tp
  unfold pKIn at e
  split at e
  rotate_left
  · cases e
  rename_i z ez
  cases ez
  cases e
  have := t.str
  subst this
  have hz := wd_ns h2 z
  have fin := k1 (.bl (if neg = true then !(kvs.lookup z).isSome else (kvs.lookup z).isSome)) W H (PSt.refl l) (.dat (.bl _))
  have ns : ∃ r, PySem.W.nsIn X.K (He.ga X.K x) z = some r ∧ r.isSome = (kvs.lookup z).isSome := by
    split at hz
    · rename_i i q
      obtain ⟨t, hz⟩ := hz
      exact ⟨_, hz, by rw [q]; rfl⟩
    · rename_i q
      exact ⟨_, hz, by rw [q]; rfl⟩
  obtain ⟨r, hr, er⟩ := ns
  rw [← er] at fin
  cases neg with
  | false => exact op_in_kd kd pins s σ H _ _ v u Q I ra rb ⟨z, r, rfl, rfl, hr, fin⟩
  | true => exact op_notIn_kd kd pins s σ H _ _ v u Q I ra rb ⟨z, r, rfl, rfl, hr, fin⟩
theorem wdIx (C : Cv P w K mg base k N sv X Wx) {x : Str} {kvs : List (Str × Int)} (h : WdOk K w mg x kvs) : IxR X (fun a b H Q => a = .ref (He.ga K x) ∧ rP K (pKIx kvs) [b] H Q) := by
  obtain ⟨h1, h2, es, n, kd⟩ := h
  have kk := C.kk; have hw := C.w
  subst kk hw
  intro value slice pins s σ H a b v u Q I ra rb q hs
  obtain ⟨rfl, W, ds, o, l, tp, e, k1⟩ := q
  cases tp with | cons t tp =>
  cases tp
  unfold pKIx at e
  split at e
  rotate_left
  · cases e
  rename_i z ez
  cases ez
  have := t.str
  subst this
  have hz := wd_ns h2 z
  split at hz
  · rename_i i q
    rw [q] at e
    cases e
    obtain ⟨t, hz⟩ := hz
    exact ix_kdict value slice pins s σ H _ _ v u Q I ra rb ⟨_, z, .int i, rfl, rfl, ⟨es, n, _, kd.at_, kd.lit, hz, ⟨t, rfl⟩⟩, k1 _ W H (PSt.refl l) (.dat (.int i))⟩ hs
  · rename_i q
    rw [q] at e
    cases e
/-- e in x, e not in x -/
theorem wdIn_ok (C : Cv P w K mg base k N sv X Wx) {x : Str} {kvs : List (Str × Int)} (h : WdOk K w mg x kvs) (neg : Bool) (hg : glB sv.sc x = true) (hn : nmB x = true) {e : Expr} {as : Ta} {p pos : Pos} (ha : PEs X K Wx [e] as) :
    PE X (.Compare e [if neg then .NotIn else .In] [.Name x p] pos) (den K Wx (.prim (pKIn neg kvs) as)) ∧ PT X (.Compare e [if neg then .NotIn else .In] [.Name x p] pos) (denT K Wx (.prim (pKIn neg kvs) as)) := by
  cases ha with | @cons _ _ t _ h1 h2 =>
  cases h2
  have px : PE X (.Name x p) (tC (.ref (He.ga K x))) := pe_glob (v := .ref (He.ga K x)) (glB_ok (by rw [C.sc]; exact hg)) (by rw [C.m]; exact h.1) rfl (nmB_ok hn).1
  exact ⟨PE.imp (pe_cmpR (wdIn C h neg) h1 px (by rfl)) fun σ H Q z => den_mono (den_prim1 z) fun a H1 y => ⟨rfl, y⟩,
    PT.imp (pt_cmpR (wdIn C h neg) h1 px (by rfl)) fun σ H Q z => (show den K Wx t σ H (fun a H1 => V.ref (He.ga K x) = .ref (He.ga K x) ∧ rP K (pKIn neg kvs) [a] H1 fun v H' => ∃ b, v = .bl b ∧ Q b H') from den_mono (den_prim1 (denT_den z)) fun a H1 y => ⟨rfl, y⟩)⟩
theorem wdIx_ok (C : Cv P w K mg base k N sv X Wx) {x : Str} {kvs : List (Str × Int)} (h : WdOk K w mg x kvs) (hg : glB sv.sc x = true) (hn : nmB x = true) {e : Expr} (he : pIx? e = true) {as : Ta} {p pos : Pos} (ha : PEs X K Wx [e] as) :
    PE X (.Subscript (.Name x p) e pos) (den K Wx (.prim (pKIx kvs) as)) := by
  cases ha with | @cons _ _ t _ h1 h2 =>
  cases h2
  have px : PE X (.Name x p) (tC (.ref (He.ga K x))) := pe_glob (v := .ref (He.ga K x)) (glB_ok (by rw [C.sc]; exact hg)) (by rw [C.m]; exact h.1) rfl (nmB_ok hn).1
  refine PE.imp (pe_ix (wdIx C h) px h1 (fun o i => by cases e <;> first | rfl | (simp [pIx?] at he))) fun σ H Q z => ?_
  show den K Wx t σ H fun b H1 => V.ref (He.ga K x) = .ref (He.ga K x) ∧ rP K (pKIx kvs) [b] H1 Q
  exact den_mono (den_prim1 z) fun a H1 y => ⟨rfl, y⟩
end
end MP

end
-- MT
section
/-! MT: the tables, with classes. -/
namespace MP
open PySem L2 PySem.Spec PyProof.Rows
/-- what is known of the program's classes and written dicts -/
structure Cl where
  flds : List (Str × List Str)
  props : List (Str × List (Str × Fn))
  meths : List ((Str × Nat) × List (Str × Fn))
  isc : List (Str × List (Str × Bool))
  eqs : List (Str × Fn)
  wds : List (Str × List (Str × Int))
  hints : List (Nat × Nat)
abbrev SpR : Type := Scope → Expr → Option ((Ta → Tm) × List Expr)
def orS (r r' : SpR) : SpR := fun sc e => match r sc e with
  | some q => some q
  | none => r' sc e
/-- built-ins that also take dicts or tuples -/
def sBl2 (x : Str) : Option (List D → Option Ou) := if x = "sorted" then some (orP pSrt pSrtT) else if x = "list" then some (orP pLst pLstD) else none
def sp1 : SpR := fun sc e => match e with
  | .Call (.Name x _) [.Call (.Name y _) [a] [] _] [] _ => if glB sc x && glB sc y && notStar a then (if x = "sorted" ∧ y = "set" then some (.prim pSrtS, [a]) else if x = "list" ∧ y = "range" then some (.prim pLRg, [a]) else none) else none
  | .Subscript a (.Slice none none (some (.UnaryOp .USub (.Constant (.int j) _ _) _)) _) _ => if j = 1 then some (.prim pRev, [a]) else none
  | .Dict [some a] [b] _ => some (.mk dDc1, [a, b])
  | _ => none
def sp2 : SpR := fun sc e => match e with
  | .Call (.Name x _) [a] [] _ => if glB sc x && notStar a then (sBl2 x).map fun f => (.prim f, [a]) else none
  | .Subscript a b _ => if pIx? b then some (.prim (orP pIx pDIx), [a, b]) else none
  | _ => none
def spM (f : Tm → Ta → Tm) : Ta → Tm
  | .cons t r => f t r
  | .nil => stk
def sp3 (cl : Cl) : SpR := fun sc e => match e with
  | .Attribute o f _ => if notSup o then (match cl.flds.lookup f with
    | some cs => some (.prim (pFld cs f), [o])
    | none => (cl.props.lookup f).map fun tb => (spM (.meth (selP tb)), [o])) else none
  | .Call (.Attribute o m ap) es [] cp => if notSup o && es.all notStar && decide (es.length < 30) && (ap.endLine == cp.line) then (match cl.meths.lookup (m, es.length) with
    | some tb => some (spM (.meth (selM m tb)), o :: es)
    | none => if m = "get" then some (spM (.rcv isDct pDGet), o :: es) else if m = "index" then some (spM (.rcv isL pIdx), o :: es) else none) else none
  | .Call (.Name x _) [a, .Name t _] [] _ => if x = "isinstance" then (if glB sc x && glB sc t && nmB t && notStar a then (cl.isc.lookup t).map fun bs => (.prim (pIsC bs), [a]) else none) else none
  | .Subscript (.Name x _) b _ => if glB sc x && nmB x && pIx? b then (cl.wds.lookup x).map fun kvs => (.prim (pKIx kvs), [b]) else none
  | _ => none
def specT (cl : Cl) : SpR := orS sp1 (orS (sp3 cl) (orS sp2 spec0))
def pCmpT : CmpOp → List D → Option Ou
  | .In => orP (pCmp .In) (pDIn false)
  | .NotIn => orP (pCmp .NotIn) (pDIn true)
  | .Eq => orP (pCmp .Eq) (pDEq false)
  | .NotEq => orP (pCmp .NotEq) (pDEq true)
  | o => pCmp o
def cspW (cl : Cl) (sc : Scope) (neg : Bool) (a b : Expr) : Option ((Ta → Tm) × List Expr) := match b with
  | .Name x _ => if glB sc x && nmB x then (cl.wds.lookup x).map fun kvs => (.prim (pKIn neg kvs), [a]) else none
  | _ => none
def cspH (cl : Cl) (p : Pos) (o : CmpOp) (a b : Expr) : Option ((Ta → Tm) × List Expr) := if cl.hints.contains (p.line, p.col) && !behindInMarks o b then (match o with
  | .Eq => some (.call (eqT cl.eqs), [a, b])
  | .NotEq => some (fun as => .not (.call (eqT cl.eqs) as), [a, b])
  | _ => none) else none
def cspD (o : CmpOp) (a b : Expr) : Option ((Ta → Tm) × List Expr) := if behindInMarks o b then none else some (.prim (pCmpT o), [a, b])
def cspT (cl : Cl) (sc : Scope) (p : Pos) (o : CmpOp) (a b : Expr) : Option ((Ta → Tm) × List Expr) := match (match o with
    | .In => cspW cl sc false a b
    | .NotIn => cspW cl sc true a b
    | _ => none) with
  | some q => some q
  | none => (match cspH cl p o a b with
    | some q => some q
    | none => cspD o a b)
def essW : Ta → Ta
  | .cons t .nil => .cons (.ess t) .nil
  | as => as
def ispT (sc : Scope) (tg e : Expr) : Option ((List D → Option (List D)) × (Ta → Ta) × List Expr) := match tg, e with
  | .Tuple _ _ _, .Call (.Attribute o m ap) [] [] cp => if m = "items" ∧ notSup o = true ∧ (ap.endLine == cp.line) = true then some (gItems, essW, [o]) else none
  | .Tuple _ _ _, .Call (.Name x _) [a] [] _ => if x = "enumerate" then (if glB sc x && notStar a then some (gEnB, id, [a]) else none) else (isp0 sc tg e).map fun q => (q.1, id, q.2)
  | _, _ => (isp0 sc tg e).map fun q => (q.1, id, q.2)
def mspT (sc : Scope) (e : Expr) : Option (Str × (D → Bool) × (D → List D → Option (D × Ou)) × List Expr) := match e with
  | .Call (.Attribute (.Name x _) m ap) [a] [] cp => if m = "pop" ∧ notStar a = true ∧ (ap.endLine == cp.line) = true then some (x, isL, mPop, [a]) else msp0 sc e
  | _ => none
def ctT (N : List Str) (fns : List ((Str × Nat) × Fn)) (con : List (Str × D)) (cl : Cl) : Ct := ⟨N, fns, cl.flds, con, pCmp, cspT cl, specT cl, ispT, mspT, orT stL stDc⟩
end MP

end
-- MT2
section
/-! MT2: the tables hold. -/
namespace MP
open PySem L2 PySem.Spec PyProof.Rows
theorem lkg {κ α : Type} [BEq κ] [LawfulBEq κ] : ∀ {l : List (κ × α)} {x : κ} {f : α}, l.lookup x = some f → (x, f) ∈ l
  | [], _, _, h => by cases h
  | (y, g) :: r, x, f, h => by
    rw [List.lookup_cons] at h
    cases q : x == y with
    | true =>
      rw [q] at h
      cases h
      rw [eq_of_beq q]
      exact List.mem_cons_self
    | false =>
      rw [q] at h
      exact List.mem_cons_of_mem _ (lkg h)
def bnam2 : List Str := "set" :: bnames
structure ClOk (P : Program) (w : World) (K : PySem.W.Frag) (mg : Str → Option Value) (base : Heap) (k : Nat) (cl : Cl) : Prop where
  flds : ∀ p ∈ cl.flds, ∀ c ∈ p.2, Cls K (He.ga K c) ∧ NoAttr K (He.ga K c) p.1
  props : ∀ p ∈ cl.props, ∀ q ∈ p.2, PrOk P w K mg base k q.1 p.1 q.2
  meths : ∀ p ∈ cl.meths, ∀ q ∈ p.2, MtOk P w K mg base (k + 1) q.1 p.1.1 p.1.2 q.2
  isc : ∀ p ∈ cl.isc, mg p.1 = some (.ref (He.ga K p.1)) ∧ IsOk K p.1 p.2
  eqs : ∀ p ∈ cl.eqs, EqOk P w K mg base k p.1 p.2
  wds : ∀ p ∈ cl.wds, WdOk K w mg p.1 p.2
section
variable {P : Program} {w : World} {K : PySem.W.Frag} {mg : Str → Option Value} {base : Heap} {k : Nat} {N : List Str} {sv : Sv} {X : Cx} {Wx : WX} {cl : Cl}
def SpOk (P : Program) (w : World) (K : PySem.W.Frag) (mg : Str → Option Value) (base : Heap) (k : Nat) (N : List Str) (r : SpR) : Prop := ∀ {sv : Sv} {X : Cx} {Wx : WX}, Cv P w K mg base k N sv X Wx → ∀ {e : Expr} {f : Ta → Tm} {es : List Expr} {as : Ta}, r sv.sc e = some (f, es) → PEs X K Wx es as → PE X e (den K Wx (f as))
theorem SpOk.or {r r' : SpR} (h : SpOk P w K mg base k N r) (h' : SpOk P w K mg base k N r') : SpOk P w K mg base k N (orS r r') := fun {sv X Wx} C {e f es as} hf ha => by
  unfold orS at hf
  split at hf
  · rename_i q e1
    cases hf
    exact h C e1 ha
  · exact h' C hf ha
theorem sp1_ok (hb : ∀ x ∈ bnam2, mg x = none) : SpOk P w K mg base k N sp1 := fun {sv X Wx} C {e f es as} hf ha => by
  unfold sp1 at hf
  split at hf
  · split at hf
    rotate_left
    · cases hf
    rename_i hq
    simp only [Bool.and_eq_true] at hq
    split at hf
    · rename_i hx
      obtain ⟨rfl, rfl⟩ := hx
      cases hf
      exact srtS_ok C (fun x hx => hb x (by
        simp only [List.mem_cons, List.not_mem_nil, or_false] at hx
        rcases hx with rfl | rfl <;> decide +kernel)) hq.1.1 hq.1.2 hq.2 ha
    · split at hf
      · rename_i hx
        obtain ⟨rfl, rfl⟩ := hx
        cases hf
        exact lrg_ok C (fun x hx => hb x (by
          simp only [List.mem_cons, List.not_mem_nil, or_false] at hx
          rcases hx with rfl | rfl <;> decide +kernel)) hq.1.1 hq.1.2 hq.2 ha
      · cases hf
  · split at hf
    · rename_i hj
      subst hj
      cases hf
      exact rev_ok' C ha
    · cases hf
  · cases hf
    exact dc1_ok ha
  · cases hf
theorem sp2_ok (hb : ∀ x ∈ bnam2, mg x = none) : SpOk P w K mg base k N sp2 := fun {sv X Wx} C {e f es as} hf ha => by
  have kk := C.kk
  unfold sp2 at hf
  split at hf
  · rename_i x px a pos
    split at hf
    rotate_left
    · cases hf
    rename_i hq
    simp only [Bool.and_eq_true] at hq
    have g : Gl X x := glB_ok (by rw [C.sc]; exact hq.1)
    have hm : ∀ y ∈ bnam2, X.mg y = none := fun y hy => by rw [C.m]; exact hb y hy
    unfold sBl2 at hf
    split at hf
    · rename_i hx
      subst hx
      cases hf
      exact b_fun (call_or (c_srt kk) (c_srtT kk)) g (hm _ (by decide +kernel)) boot_sorted (by decide +kernel) (by decide +kernel) (by simp [hq.2]) ha
    · split at hf
      · rename_i hx
        subst hx
        cases hf
        exact b_typ (call_or (c_lst kk) (c_lstD C)) g (hm _ (by decide +kernel)) boot_list (by decide +kernel) (by decide +kernel) (by simp [hq.2]) ha
      · cases hf
  · split at hf
    · rename_i hp
      cases hf
      exact rP_op2 (r := fun _ _ _ _ => True) ha fun t u ha hb => pe_ix (ix_or (x_ix kk) (ix_dict C)) ha hb (ixp hp)
    · cases hf
  · cases hf
theorem sp3_ok (hb : ∀ x ∈ bnam2, mg x = none) (hc : ClOk P w K mg base k cl) : SpOk P w K mg base (k + 1) N (sp3 cl) := fun {sv X Wx} C {e f es as} hf ha => by
  have kk := C.kk
  unfold sp3 at hf
  split at hf
  · rename_i o f0 pos
    split at hf
    rotate_left
    · cases hf
    rename_i hs
    split at hf
    · rename_i cs q
      cases hf
      exact fld_ok C (hc.flds _ (lkm q)) hs ha
    · cases q : cl.props.lookup f0 with
      | none => rw [q] at hf; cases hf
      | some tb =>
        rw [q] at hf
        cases hf
        cases ha with | cons h1 h2 =>
        cases h2
        exact prop_ok (as := .nil) C (hc.props _ (lkm q)) hs h1
  · rename_i o m ap es0 cp
    split at hf
    rotate_left
    · cases hf
    rename_i hq
    simp only [Bool.and_eq_true, decide_eq_true_eq] at hq
    obtain ⟨⟨⟨q1, q2⟩, q3⟩, q4⟩ := hq
    split at hf
    · rename_i tb q
      cases hf
      cases ha with | cons h1 h2 =>
      exact meth_ok C (hc.meths _ (lkg q)) q1 q2 q3 q4 h1 h2
    · split at hf
      · rename_i hx
        subst hx
        cases hf
        cases ha with | cons h1 h2 =>
        exact rcv_ok kk PySem.F.plainAttrs_dict PySem.F.slot_dict_get (by rfl) (m_get C) (kd_dct kk) q2 q3 q1 q4 h1 h2
      · split at hf
        · rename_i hx
          subst hx
          cases hf
          cases ha with | cons h1 h2 =>
          exact rcv_ok kk PySem.F.plainAttrs_list PySem.F.slot_list_index (by rfl) (m_idx kk) (kd_lst kk) q2 q3 q1 q4 h1 h2
        · cases hf
  · rename_i x px a t pt pos
    split at hf
    rotate_left
    · cases hf
    rename_i hx
    subst hx
    split at hf
    rotate_left
    · cases hf
    rename_i hq
    simp only [Bool.and_eq_true] at hq
    cases q : cl.isc.lookup t with
    | none => rw [q] at hf; cases hf
    | some bs =>
      rw [q] at hf
      cases hf
      obtain ⟨z1, z2⟩ := hc.isc _ (lkm q)
      exact isC_ok C z2 (hb _ (by decide +kernel)) z1 hq.1.1.1 hq.1.1.2 hq.1.2 hq.2 ha
  · rename_i x px b pos
    split at hf
    rotate_left
    · cases hf
    rename_i hq
    simp only [Bool.and_eq_true] at hq
    cases q : cl.wds.lookup x with
    | none => rw [q] at hf; cases hf
    | some kvs =>
      rw [q] at hf
      cases hf
      exact wdIx_ok C (hc.wds _ (lkm q)) hq.1.1 hq.1.2 hq.2 ha
  · cases hf
theorem specT_ok (hb : ∀ x ∈ bnam2, mg x = none) (hc : ClOk P w K mg base k cl) : SpOk P w K mg base (k + 1) N (specT cl) :=
  SpOk.or (sp1_ok hb) (SpOk.or (sp3_ok hb hc) (SpOk.or (sp2_ok hb) fun {sv X Wx} C {e f es as} hf ha => spec0_ok C (fun x hx => hb x (List.mem_cons_of_mem _ hx)) hf ha))
theorem pCmpT_ok (C : Cv P w K mg base k N sv X Wx) (o : CmpOp) : OpR X (compareOp o) (fun x y => rP K (pCmpT o) [x, y]) := by
  cases o with
  | In => exact op_or (pCmp_ok C .In) (in_dict C false)
  | NotIn => exact op_or (pCmp_ok C .NotIn) (in_dict C true)
  | Eq => exact op_or (pCmp_ok C .Eq) (eq_dict C false)
  | NotEq => exact op_or (pCmp_ok C .NotEq) (eq_dict C true)
  | _ => exact pCmp_ok C _
theorem cspD_ok (C : Cv P w K mg base k N sv X Wx) {pos : Pos} {o : CmpOp} {a b : Expr} {f : Ta → Tm} {es : List Expr} {as : Ta} (hf : cspD o a b = some (f, es)) (ha : PEs X K Wx es as) : PE X (.Compare a [o] [b] pos) (den K Wx (f as)) ∧ PT X (.Compare a [o] [b] pos) (denT K Wx (f as)) := by
  unfold cspD at hf
  split at hf
  · cases hf
  rename_i hm
  cases hf
  cases ha with | cons h1 h2 =>
  cases h2 with | cons h2 h3 =>
  cases h3
  exact ⟨PE.imp (pe_cmpR (pCmpT_ok C o) h1 h2 (lookMark hm)) fun σ H Q h => rP_op h, PT.imp (pt_cmpR (pCmpT_ok C o) h1 h2 (lookMark hm)) fun σ H Q h => rP_op (denT_den h)⟩
/-- a call of the program's own == -/
theorem den_call2 {g : Fn} {t u : Tm} {σ : L2.St} {H : Hp} {Q : VK} (h : den K Wx (.call g (.cons t (.cons u .nil))) σ H Q) : den K Wx t σ H fun x H1 => den K Wx u σ H1 fun y H2 => spF K g [x, y] H2 Q (WE Wx σ) :=
  den_mono (denA_cons (den_call h)) fun x H1 z => den_mono (denA_cons z) fun y H2 z => denA_nil z
theorem eqT_any {eqs : List (Str × Fn)} {vs : List V} {H : Hp} {Q : VK} {E E' : XK} (h : spF K (eqT eqs) vs H Q E) : spF K (eqT eqs) vs H Q E' := by
  obtain ⟨W, ds, l, a, n, h⟩ := h
  refine ⟨W, ds, l, a, n, ?_⟩
  cases e : (eqT eqs).F ds with
  | ok o ios => rw [e] at h; exact h
  | stuck => rw [e] at h; exact h.elim
  | exn x ios =>
    exfalso
    unfold eqT at e
    dsimp only at e
    repeat' split at e
    all_goals cases e
theorem eqT_bl {eqs : List (Str × Fn)} {vs : List V} {H : Hp} {Q : VK} {E : XK} (h : spF K (eqT eqs) vs H Q E) : spF K (eqT eqs) vs H (fun v H' => ∃ t, v = .bl t ∧ Q v H') E := by
  obtain ⟨W, ds, l, a, n, h⟩ := h
  refine ⟨W, ds, l, a, n, ?_⟩
  cases e : (eqT eqs).F ds with
  | exn x ios => rw [e] at h; exact h
  | stuck => rw [e] at h; exact h
  | ok o ios =>
    rw [e] at h
    have : ∃ b, o = .dat (.bl b) := by
      unfold eqT at e
      dsimp only at e
      repeat' split at e
      all_goals first | (cases e; exact ⟨_, rfl⟩) | cases e
    obtain ⟨b, rfl⟩ := this
    intro v W' H' F I O
    have q := h v W' H' F I O
    cases O with
    | dat z => cases z; exact ⟨b, rfl, q⟩
theorem spF_imp {f : Fn} {vs : List V} {H : Hp} {Q Q' : VK} {E : XK} (h : spF K f vs H Q E) (i : ∀ v H', Q v H' → Q' v H') : spF K f vs H Q' E := by
  obtain ⟨W, ds, l, a, n, h⟩ := h
  refine ⟨W, ds, l, a, n, ?_⟩
  cases e : f.F ds with
  | ok o ios => rw [e] at h; exact fun v W' H' F I O => i _ _ (h v W' H' F I O)
  | exn x ios => rw [e] at h; exact h
  | stuck => rw [e] at h; exact h
theorem cspH_ok (C : Cv P w K mg base (k + 1) N sv X Wx) (hc : ClOk P w K mg base k cl) {p : Pos} {o : CmpOp} {a b : Expr} {f : Ta → Tm} {es : List Expr} {as : Ta} (hf : cspH cl p o a b = some (f, es)) (ha : PEs X K Wx es as) : PE X (.Compare a [o] [b] p) (den K Wx (f as)) ∧ PT X (.Compare a [o] [b] p) (denT K Wx (f as)) := by
  unfold cspH at hf
  split at hf
  rotate_left
  · cases hf
  rename_i hq
  simp only [Bool.and_eq_true, Bool.not_eq_true'] at hq
  split at hf
  · cases hf
    cases ha with | cons h1 h2 =>
    cases h2 with | cons h2 h3 =>
    cases h3
    have op := op_eqO C hc.eqs false
    refine ⟨PE.imp (pe_cmpR op h1 h2 hq.2) fun σ H Q z => ?_, PT.imp (pt_cmpR op h1 h2 hq.2) fun σ H Q z => ?_⟩
    · exact den_mono (den_call2 z) fun x H1 y => den_mono y fun x2 H2 y => spF_imp (eqT_bl (eqT_any y)) fun v H' ⟨t, e, q⟩ => ⟨t, e, by subst e; exact q⟩
    · exact den_mono (den_call2 (denT_den z)) fun x H1 y => den_mono y fun x2 H2 y => spF_imp (eqT_any y) fun v H' ⟨t, e, q⟩ => ⟨t, e, t, rfl, q⟩
  · cases hf
    cases ha with | cons h1 h2 =>
    cases h2 with | cons h2 h3 =>
    cases h3
    have op := op_eqO C hc.eqs true
    refine ⟨PE.imp (pe_cmpR op h1 h2 hq.2) fun σ H Q z => ?_, PT.imp (pt_cmpR op h1 h2 hq.2) fun σ H Q z => ?_⟩
    · exact den_mono (den_call2 (den_not z)) fun x H1 y => den_mono y fun x2 H2 y => spF_imp (eqT_any y) fun v H' ⟨t, e, q⟩ => ⟨t, e, q⟩
    · exact den_mono (den_call2 (denT_den (denT_not z))) fun x H1 y => den_mono y fun x2 H2 y => spF_imp (eqT_any y) fun v H' ⟨t, e, q⟩ => ⟨t, e, _, rfl, q⟩
  · cases hf
theorem cspW_ok (C : Cv P w K mg base k N sv X Wx) (hw : ∀ p ∈ cl.wds, WdOk K w mg p.1 p.2) {neg : Bool} {pos : Pos} {a b : Expr} {f : Ta → Tm} {es : List Expr} {as : Ta} (hf : cspW cl sv.sc neg a b = some (f, es)) (ha : PEs X K Wx es as) :
    PE X (.Compare a [if neg then .NotIn else .In] [b] pos) (den K Wx (f as)) ∧ PT X (.Compare a [if neg then .NotIn else .In] [b] pos) (denT K Wx (f as)) := by
  unfold cspW at hf
  split at hf
  rotate_left
  · cases hf
  rename_i x px
  split at hf
  rotate_left
  · cases hf
  rename_i hq
  simp only [Bool.and_eq_true] at hq
  cases q : cl.wds.lookup x with
  | none => rw [q] at hf; cases hf
  | some kvs =>
    rw [q] at hf
    cases hf
    exact wdIn_ok C (hw _ (lkm q)) neg hq.1 hq.2 ha
theorem cspT_ok (C : Cv P w K mg base (k + 1) N sv X Wx) (hc : ClOk P w K mg base k cl) {p : Pos} {o : CmpOp} {a b : Expr} {f : Ta → Tm} {es : List Expr} {as : Ta} (hf : cspT cl sv.sc p o a b = some (f, es)) (ha : PEs X K Wx es as) : PE X (.Compare a [o] [b] p) (den K Wx (f as)) ∧ PT X (.Compare a [o] [b] p) (denT K Wx (f as)) := by
  have last : (match cspH cl p o a b with
    | some q => some q
    | none => cspD o a b) = some (f, es) → PE X (.Compare a [o] [b] p) (den K Wx (f as)) ∧ PT X (.Compare a [o] [b] p) (denT K Wx (f as)) := fun h => by
    split at h
    · rename_i q e1
      cases h
      exact cspH_ok C hc e1 ha
    · exact cspD_ok C h ha
  unfold cspT at hf
  split at hf
  · rename_i q e1
    cases hf
    split at e1
    · exact cspW_ok C hc.wds (neg := false) e1 ha
    · exact cspW_ok C hc.wds (neg := true) e1 ha
    · cases e1
  · exact last hf
theorem ispT_ok (C : Cv P w K mg base k N sv X Wx) (hb : ∀ x ∈ bnam2, mg x = none) {tg e : Expr} {g : List D → Option (List D)} {wr : Ta → Ta} {es : List Expr} {as : Ta} (hf : ispT sv.sc tg e = some (g, wr, es)) (h : PEs X K Wx es as) : PI X tg e (denI K Wx g (wr as)) := by
  have old : (isp0 sv.sc tg e).map (fun q => (q.1, (id : Ta → Ta), q.2)) = some (g, wr, es) → PI X tg e (denI K Wx g (wr as)) := fun hf => by
    cases q : isp0 sv.sc tg e with
    | none => rw [q] at hf; cases hf
    | some z =>
      obtain ⟨z1, z2⟩ := z
      rw [q] at hf
      cases hf
      exact isp0_ok C (fun x hx => hb x (List.mem_cons_of_mem _ hx)) q h
  unfold ispT at hf
  split at hf
  · split at hf
    · rename_i hq
      obtain ⟨rfl, h2, h3⟩ := hq
      cases hf
      cases h with | cons h1 h2' =>
      cases h2'
      exact ditems C h2 h3 h1
    · cases hf
  · split at hf
    · rename_i hx
      subst hx
      split at hf
      · rename_i hq
        simp only [Bool.and_eq_true] at hq
        cases hf
        exact pi_enB C.kk (glB_ok (by rw [C.sc]; exact hq.1)) (by rw [C.m]; exact hb _ (by decide +kernel)) hq.2 h
      · cases hf
    · exact old hf
  · exact old hf
theorem mspT_ok (C : Cv P w K mg base k N sv X Wx) {e : Expr} {x : Str} {kd : D → Bool} {f : D → List D → Option (D × Ou)} {es : List Expr} {as : Ta} {i : Nat} (hf : mspT sv.sc e = some (x, kd, f, es)) (hi : N[i]? = some x) (hv : Vis X.env.scope x) (hn : nmB x = true) (h : PEs X K Wx es as) : PE X e (den K Wx (.mth kd f i as)) := by
  unfold mspT at hf
  split at hf
  rotate_left
  · cases hf
  rename_i y py m ap a cp
  split at hf
  · rename_i hq
    obtain ⟨rfl, h2, h3⟩ := hq
    cases hf
    obtain ⟨n1, n2⟩ := nmB_ok hn
    have kk := C.kk
    subst kk
    have pv : PE X (.Name x py) (tVar i) := pe_var (by rw [C.n]; exact hi) hv n1 n2
    refine PE.imp (pe_bm PySem.F.plainAttrs_list PySem.F.slot_list_pop (by rfl) (m_pop (K := X.K)) pv (h.pa (by simp [h2])) rfl (by rw [star_cons h2]; rfl) h3 (star_cons h2) rfl) fun σ H Q z => ?_
    obtain ⟨b, W, d, e1, e2, e3, e4⟩ := den_mth z
    refine ⟨.ref b, e1, ?_, e4⟩
    cases e2 with
    | lst hm r => exact .inl ⟨rfl, _, SqL.of hm⟩
    | _ => cases e3
  · exact msp0_ok C hf hi hv hn h
theorem Calb.up {ad : Addr} {n : Nat} {f : Fn} (h : Calb P w K mg base k ad n f) : Calb P w K mg base (k + 1) ad n f := fun X E A pins s σ H Q us vs e1 e2 e3 e4 e5 hr => h X E A pins s σ H Q us vs e1 e2 e3 e4 e5 (hr.mono (Nat.le_succ _))
/-- what is known of a name that can be called -/
abbrev Fo (P : Program) (w : World) (K : PySem.W.Frag) (mg : Str → Option Value) (base : Heap) (k : Nat) (p : (Str × Nat) × Fn) : Prop := ∃ ad, mg p.1.1 = some (.ref ad) ∧ PySem.W.keepIn K (.ref ad) = true ∧ Calb P w K mg base k ad p.1.2 p.2
abbrev Pc (K : PySem.W.Frag) (mg : Str → Option Value) (p : Str × D) : Prop := ∃ v u, mg p.1 = some u ∧ RelV v u ∧ ∀ W, Dr K W v p.2
theorem tblT {fns : List ((Str × Nat) × Fn)} {con : List (Str × D)} (hb : ∀ x ∈ bnam2, mg x = none) (hf : ∀ p ∈ fns, Fo P w K mg base (k + 1) p) (hc : ∀ p ∈ con, Pc K mg p) (hl : ClOk P w K mg base k cl) : Tbl P w K mg base (k + 1) (ctT N fns con cl) where
  fns := fun x n f e => hf ((x, n), f) (lkg e)
  flds := fun f cs e => hl.flds (f, cs) (lkm e)
  con := fun x d e => hc (x, d) (lkm e)
  cmp := fun C o => pCmp_ok C o
  csp := fun {sv X Wx} C {pos o a b f es as} hf ha => cspT_ok C hl hf ha
  dcE := fun {sv X Wx} C {kx vx tg iter ifs scope pos p tk} L pk => dcE_ok C L pk
  dcS := fun {sv X Wx} C {kx vx tg iter ifs scope pos py spos p tk i y fu} L pk hy hl hs => dcS_ok C L pk hy hl hs
  spec := fun {sv X Wx} C {e f es as} hf ha => specT_ok hb hl C hf ha
  isp := fun {sv X Wx} C {tg e g wr es as} hf h => ispT_ok C hb hf h
  msp := fun {sv X Wx} C {e x kd f es as i} hf hi hv hn h => mspT_ok C hf hi hv hn h
  sst := fun C => by
    have kk := C.kk
    subst kk
    exact set_or s_lst (s_dct C)
end
end MP

end
-- MPL
section
/-! MPL: a law's end. -/
namespace MP
open PySem L2
theorem fn_stuck {P : Program} {w : World} {K : PySem.W.Frag} {mg : Str → Option Value} {base : Heap} {CX : CXT} {k : Nat} {f : Addr} {fd : FuncData} {ps : List Str} {io : List Bool} : FnG P w K mg base CX k f fd ps (spF K ⟨io, fun _ => .stuck⟩) := by
  refine ⟨fun vs H Q E h => ?_, fun A outer s H args us vs Q E _ _ _ _ _ h => ?_⟩
  · obtain ⟨_, _, _, _, _, h⟩ := h
    exact h.elim
  · obtain ⟨_, _, _, _, _, h⟩ := h
    exact h.elim
/-- the script is a list of numbers; the law's own function says True -/
theorem law_sp {K : PySem.W.Frag} {F : List D → FR} {n : Nat} (h : ∀ ns : List Int, ns.length ≤ n → F [.lst (ns.map D.int)] = .ok (.dat (.bl true)) []) (H : Hp) (a : Addr) (ns : List Int) (hl : ns.length ≤ n) (hS : SqL K H a (ns.map V.int)) :
    spF K ⟨[false], F⟩ [.ref a] H (fun v _ => v = .bl true) fun _ _ _ => False := by
  have fin : ∀ {W : Hp}, Le W H → LstAt K W a (ns.map V.int) → spF K ⟨[false], F⟩ [.ref a] H (fun v _ => v = .bl true) fun _ _ _ => False := fun {W} l q => by
    refine ⟨W, [.lst (ns.map D.int)], l, .dat (.lst q DrA.ints) .nil, List.nodup_nil, ?_⟩
    show (match F [.lst (ns.map D.int)] with
      | .ok o ios => _
      | .exn x ios => _
      | .stuck => False)
    rw [h ns hl]
    intro v W' H' _ _ o
    cases o with
    | dat d => cases d; rfl
  rcases hS with q | q
  · refine fin (W := fun x => if x = a then some (.lst (ns.map V.int)) else none) (fun x o e => ?_) (.inl (if_pos rfl))
    dsimp only at e
    split at e
    · rename_i z
      subst z
      cases e
      rcases q with q | ⟨ob, q⟩
      · exact .inl q
      · exact .inr ⟨ob, q, rfl⟩
    · cases e
  · exact fin (W := fun _ => none) (fun x o e => by cases e) (.inr q)
def CXe : CXT := fun outer H s E e s' => ∃ P w, L2.CX P w outer H s E e s'
theorem fn_cx {P : Program} {w : World} {K : PySem.W.Frag} {mg : Str → Option Value} {base : Heap} {k : Nat} {f : Addr} {fd : FuncData} {ps : List Str} {sp : Sp} (F : FnG P w K mg base (L2.CX P w) k f fd ps sp) : FnG P w K mg base CXe k f fd ps sp :=
  ⟨F.len, fun A outer s H args us vs Q E hr hgd he hb hv hs => codeAny_mono (F.run A outer s H args us vs Q E hr hgd he hb hv hs) fun r s' h => by
    cases r with
    | ok a => cases a <;> exact h
    | error e => exact ⟨P, w, h⟩⟩
theorem cxe_no (H : Hp) (s : Shared) (e : Value) (s' : Shared) (h : CXe [] H s (fun _ _ _ => False) e s') : False := by
  obtain ⟨P, w, h⟩ := h
  obtain ⟨a, B, H', cls, d, _, _, _, _, _, _, _, z⟩ := h
  exact z
section
variable {K : PySem.W.Frag} {h : Heap} {mg : Str → Option Value}
theorem pc_int (X : K.In h) (G : h.Ns mainGlobals mg) {x : Str} {i : Int} (c : (He.Fa.int x i).ok K = true) : Pc K mg (x, .int i) := by
  obtain ⟨t, e⟩ := He.int_ok X G c
  exact ⟨.int i, _, e, ⟨t, rfl⟩, fun W => .int i⟩
theorem pc_str (X : K.In h) (G : h.Ns mainGlobals mg) {x z : Str} (c : (He.Fa.str x z).ok K = true) : Pc K mg (x, .str z) := by
  obtain ⟨t, e⟩ := He.str_ok X G c
  exact ⟨.str z, _, e, ⟨t, rfl⟩, fun W => .str z⟩
end
end MP

end
-- MPM
section
/-! MPM: plain lemmas about the evaluator. -/
namespace MP
open PySem L2
/-- a comprehension without changes -/
theorem lc_pure {ec ee : List Slot → Rs Vl} {tg : Tg} {own : List Nat} {c : D → Bool} {f : D → D} {Γ : List Slot} : ∀ {xs : List D} {acc : List D}, (∀ x ∈ xs, ∃ Γ1, bnd tg x Γ = some Γ1 ∧ ec Γ1 = .ok (.dat (.bl (c x))) Γ1 ∧ (c x = true → ee Γ1 = .ok (.dat (f x)) Γ1) ∧ wipeG own Γ1 = Γ) →
    lcLoop ec ee tg own xs acc Γ = .ok (acc ++ (xs.filter c).map f) Γ
  | [], acc, _ => by simp [lcLoop]
  | x :: xs, acc, h => by
    obtain ⟨Γ1, h1, h2, h3, h4⟩ := h x List.mem_cons_self
    have ih := fun acc => lc_pure (xs := xs) (acc := acc) fun y hy => h y (List.mem_cons_of_mem _ hy)
    unfold lcLoop
    rw [h1]
    dsimp only
    rw [h2]
    cases q : c x with
    | true =>
      simp only [Rs.nox, Rs.bind, h3 q, esc, h4]
      rw [ih, List.filter_cons_of_pos q]
      simp
    | false =>
      simp only [Rs.nox, Rs.bind, h4]
      rw [ih, List.filter_cons_of_neg (by rw [q]; decide)]
theorem lc_map {ec ee : List Slot → Rs Vl} {tg : Tg} {own : List Nat} {f : D → D} {Γ : List Slot} {xs : List D} (h : ∀ x ∈ xs, ∃ Γ1, bnd tg x Γ = some Γ1 ∧ ec Γ1 = .ok (.dat (.bl true)) Γ1 ∧ ee Γ1 = .ok (.dat (f x)) Γ1 ∧ wipeG own Γ1 = Γ) :
    lcLoop ec ee tg own xs [] Γ = .ok (xs.map f) Γ := by
  rw [lc_pure (c := fun _ => true) (f := f) fun x hx => by
    obtain ⟨Γ1, h1, h2, h3, h4⟩ := h x hx
    exact ⟨Γ1, h1, h2, fun _ => h3, h4⟩]
  rw [List.filter_eq_self.mpr fun _ _ => rfl, List.nil_append]
/-- a comprehension whose element changes the state -/
theorem lc_inv {ec ee : List Slot → Rs Vl} {tg : Tg} {own : List Nat} (I : List Slot → Prop) (Pd : D → Prop) : ∀ {xs : List D} {acc : List D} {Γ : List Slot}, (∀ x ∈ xs, ∀ Γ, I Γ → ∃ Γ1 l Γ2 d Γ3, bnd tg x Γ = some Γ1 ∧ ec Γ1 = .ok (.dat (.bl true)) Γ1 ∧ ee Γ1 = .ok l Γ2 ∧ esc l Γ2 = .ok d Γ3 ∧ Pd d ∧ I (wipeG own Γ3)) → I Γ → (∀ d ∈ acc, Pd d) →
    ∃ ds Γ', lcLoop ec ee tg own xs acc Γ = .ok ds Γ' ∧ I Γ' ∧ (∀ d ∈ ds, Pd d) ∧ ds.length = acc.length + xs.length
  | [], acc, Γ, _, hI, ha => ⟨acc, Γ, by simp [lcLoop], hI, ha, by simp⟩
  | x :: xs, acc, Γ, h, hI, ha => by
    obtain ⟨Γ1, l, Γ2, d, Γ3, h1, h2, h3, h4, h5, h6⟩ := h x List.mem_cons_self Γ hI
    obtain ⟨ds, Γ', e1, e2, e3, e4⟩ := lc_inv I Pd (xs := xs) (acc := acc ++ [d]) (fun y hy => h y (List.mem_cons_of_mem _ hy)) h6 (fun y hy => by
      rcases List.mem_append.mp hy with z | z
      · exact ha y z
      · rw [List.mem_singleton.mp z]; exact h5)
    refine ⟨ds, Γ', ?_, e2, e3, by rw [e4]; simp; omega⟩
    unfold lcLoop
    rw [h1]
    dsimp only
    rw [h2]
    simp only [Rs.nox, Rs.bind, h3, h4]
    exact e1
/-- a loop that never leaves early -/
theorem for_inv {eb : List Slot → Rs Fl} {tg : Tg} (I : List Slot → Prop) : ∀ {xs : List D} {Γ : List Slot}, (∀ x ∈ xs, ∀ Γ, I Γ → ∃ Γ1 Γ2, bnd tg x Γ = some Γ1 ∧ eb Γ1 = .ok .nx Γ2 ∧ I Γ2) → I Γ → ∃ Γ', forLoop eb tg xs Γ = .ok .nx Γ' ∧ I Γ'
  | [], Γ, _, hI => ⟨Γ, by simp [forLoop], hI⟩
  | x :: xs, Γ, h, hI => by
    obtain ⟨Γ1, Γ2, h1, h2, h3⟩ := h x List.mem_cons_self Γ hI
    obtain ⟨Γ', e1, e2⟩ := for_inv I (xs := xs) (fun y hy => h y (List.mem_cons_of_mem _ hy)) h3
    refine ⟨Γ', ?_, e2⟩
    unfold forLoop
    rw [h1]
    simp only [h2, Rs.bind]
    exact e1
section
variable {Γ : List Slot} {n : Nat}
@[simp] theorem bind_ok {α β : Type} {a : α} {Γ : List Slot} {f : α → List Slot → Rs β} : (Rs.ok a Γ).bind f = f a Γ := rfl
@[simp] theorem ev_var {i : Nat} : ev (.var i) Γ = (match Γ[i]? with
    | some (.dat d) => .ok (.dat d) Γ
    | some (.mt _ _) => .ok (.ref i) Γ
    | some (.lck _ _) => .ok (.ref i) Γ
    | _ => .stuck) := by first | (rw [ev]; done) | (rw [ev]; rfl)
@[simp] theorem ev_con {d : D} : ev (.con d) Γ = .ok (.dat d) Γ := by first | (rw [ev]; done) | (rw [ev]; rfl)
@[simp] theorem ev_prim {f : List D → Option Ou} {as : Ta} : ev (.prim f as) Γ = (evA as Γ).bind fun ls Γ1 => match resA Γ1 ls with
    | some ds => (match f ds with
      | some o => .ok o.vl Γ1
      | none => .stuck)
    | none => .stuck := by first | (rw [ev]; done) | (rw [ev]; rfl)
@[simp] theorem ev_mk {f : List D → Option Ou} {as : Ta} : ev (.mk f as) Γ = (evA as Γ).bind fun ls Γ1 => (escA ls Γ1).bind fun ds Γ2 => match f ds with
    | some o => .ok o.vl Γ2
    | none => .stuck := by first | (rw [ev]; done) | (rw [ev]; rfl)
@[simp] theorem ev_call {f : Fn} {as : Ta} : ev (.call f as) Γ = (evA as Γ).bind fun ls Γ1 => evCall f ls Γ1 := by first | (rw [ev]; done) | (rw [ev]; rfl)
@[simp] theorem ev_and {a b : Tm} : ev (.and a b) Γ = (ev a Γ).bind fun l Γ1 => match l with
    | .dat (.bl true) => ev b Γ1
    | .dat (.bl false) => .ok l Γ1
    | _ => .stuck := by first | (rw [ev]; done) | (rw [ev]; rfl)
@[simp] theorem ev_or {a b : Tm} : ev (.or a b) Γ = (ev a Γ).bind fun l Γ1 => match l with
    | .dat (.bl true) => .ok l Γ1
    | .dat (.bl false) => ev b Γ1
    | _ => .stuck := by first | (rw [ev]; done) | (rw [ev]; rfl)
@[simp] theorem ev_not {a : Tm} : ev (.not a) Γ = (ev a Γ).bind fun l Γ1 => match l with
    | .dat (.bl b) => .ok (.dat (.bl (!b))) Γ1
    | _ => .stuck := by first | (rw [ev]; done) | (rw [ev]; rfl)
@[simp] theorem ev_ifx {c a b : Tm} : ev (.ifx c a b) Γ = (ev c Γ).bind fun l Γ1 => match l with
    | .dat (.bl true) => ev a Γ1
    | .dat (.bl false) => ev b Γ1
    | _ => .stuck := by first | (rw [ev]; done) | (rw [ev]; rfl)
@[simp] theorem ev_chn {f g : List D → Option Ou} {a b c : Tm} : ev (.chn f g a b c) Γ = (ev a Γ).bind fun la Γ1 => (ev b Γ1).bind fun lb Γ2 => match resA Γ2 [la, lb] with
    | some ds => (match f ds with
      | some (.dat (.bl false)) => .ok (.dat (.bl false)) Γ2
      | some (.dat (.bl true)) => (ev c Γ2).bind fun lc Γ3 => (match resA Γ3 [lb, lc] with
        | some es => (match g es with
          | some o => .ok o.vl Γ3
          | none => .stuck)
        | none => .stuck)
      | _ => .stuck)
    | none => .stuck := by first | (rw [ev]; done) | (rw [ev]; rfl)
@[simp] theorem ev_mth {k : D → Bool} {f : D → List D → Option (D × Ou)} {i : Nat} {as : Ta} : ev (.mth k f i as) Γ = (match Γ[i]? with
    | some (.mt _ d0) => if k d0 = true then (evA as Γ).bind fun ls Γ1 => (escA ls Γ1).bind fun ds Γ2 => (match Γ2[i]? with
      | some (.mt b d) => (match f d ds with
        | some (d', o) => .ok o.vl (Γ2.set i (.mt b d'))
        | none => .stuck)
      | _ => .stuck) else .stuck
    | _ => .stuck) := by first | (rw [ev]; done) | (rw [ev]; rfl)
@[simp] theorem evA_nil : evA .nil Γ = .ok [] Γ := by first | (rw [evA]; done) | (rw [evA]; rfl)
@[simp] theorem evA_cons {t : Tm} {r : Ta} : evA (.cons t r) Γ = (ev t Γ).bind fun l Γ1 => (evA r Γ1).bind fun ls Γ2 => .ok (l :: ls) Γ2 := by first | (rw [evA]; done) | (rw [evA]; rfl)
/-- a comprehension, by its loop -/
theorem ev_lc {g : List D → Option (List D)} {as : Ta} {tg : Tg} {own : List Nat} {c e : Tm} {ls : List Vl} {Γ1 Γ2 : List Slot} {ds xs acc : List D} (h1 : evA as Γ = .ok ls Γ1) (h2 : resA Γ1 ls = some ds) (h3 : g ds = some xs) (h4 : xs.length ≤ LIM) (h5 : noMut own Γ1 = true)
    (h6 : lcLoop (ev c) (ev e) tg own xs [] (wipeG own (lockA (locks Γ1 ls) Γ1)) = .ok acc Γ2) : ev (.lc g as tg own c e) Γ = .ok (.new (.lst acc)) (keepG own Γ1 (unlockA (locks Γ1 ls) Γ2)) := by
  rw [ev, h1]
  simp only [Rs.bind, h2, h3]
  rw [if_pos ⟨h4, h5⟩, h6]
@[simp] theorem ex_set {i : Nat} {t : Tm} : ex n (.set i t) Γ = (ev t Γ).bind fun l Γ1 => (store i l Γ1).bind fun _ Γ2 => .ok .nx Γ2 := by first | (rw [ex]; done) | (rw [ex]; rfl)
@[simp] theorem ex_unp {tg : Tg} {t : Tm} : ex n (.unp tg t) Γ = (ev t Γ).bind fun l Γ1 => match res Γ1 l with
    | some (.tup ds) => (match bnd tg (.tup ds) Γ1 with
      | some Γ2 => .ok .nx Γ2
      | none => .stuck)
    | _ => .stuck := by first | (rw [ex]; done) | (rw [ex]; rfl)
@[simp] theorem ex_par {is : List Nat} {as : Ta} : ex n (.par is as) Γ = (evA as Γ).bind fun ls Γ1 => (storeA is ls Γ1).bind fun _ Γ2 => .ok .nx Γ2 := by first | (rw [ex]; done) | (rw [ex]; rfl)
@[simp] theorem ex_sub {f : D → D → D → Option D} {i : Nat} {k t : Tm} : ex n (.sub f i k t) Γ = if isMt Γ i = true then (ev t Γ).bind fun l Γ1 => (ev k Γ1).bind fun lk Γ2 => (escA [l, lk] Γ2).bind fun ds Γ3 => (match ds, Γ3[i]? with
    | [d, dk], some (.mt b o) => (match f o dk d with
      | some o' => .ok .nx (Γ3.set i (.mt b o'))
      | none => .stuck)
    | _, _ => .stuck) else .stuck := by first | (rw [ex]; done) | (rw [ex]; rfl)
@[simp] theorem ex_drop {t : Tm} : ex n (.drop t) Γ = (ev t Γ).bind fun _ Γ1 => .ok .nx Γ1 := by first | (rw [ex]; done) | (rw [ex]; rfl)
@[simp] theorem ex_ret {t : Tm} : ex n (.ret t) Γ = (ev t Γ).bind fun l Γ1 => retV l Γ1 := by first | (rw [ex]; done) | (rw [ex]; rfl)
@[simp] theorem ex_ite {c : Tm} {a b : Ss} : ex n (.ite c a b) Γ = (ev c Γ).bind fun l Γ1 => match l with
    | .dat (.bl true) => exs n a Γ1
    | .dat (.bl false) => exs n b Γ1
    | _ => .stuck := by first | (rw [ex]; done) | (rw [ex]; rfl)
@[simp] theorem ex_brk : ex n .brk Γ = .ok .bk Γ := by first | (rw [ex]; done) | (rw [ex]; rfl)
@[simp] theorem ex_cnt : ex n .cnt Γ = .ok .ct Γ := by first | (rw [ex]; done) | (rw [ex]; rfl)
@[simp] theorem ex_pas : ex n .pas Γ = .ok .nx Γ := by first | (rw [ex]; done) | (rw [ex]; rfl)
@[simp] theorem exs_nil : exs n .nil Γ = .ok .nx Γ := by first | (rw [exs]; done) | (rw [exs]; rfl)
@[simp] theorem exs_cons {s : Sm} {r : Ss} : exs n (.cons s r) Γ = (ex n s Γ).bind fun f Γ1 => match f with
    | .nx => exs n r Γ1
    | f => .ok f Γ1 := by first | (rw [exs]; done) | (rw [exs]; rfl)
theorem ex_for {g : List D → Option (List D)} {as : Ta} {tg : Tg} {b : Ss} {ls : List Vl} {Γ1 Γ2 : List Slot} {ds xs : List D} {f : Fl} (h1 : evA as Γ = .ok ls Γ1) (h2 : resA Γ1 ls = some ds) (h3 : g ds = some xs)
    (h6 : forLoop (exs n b) tg xs (lockA (locks Γ1 ls) Γ1) = .ok f Γ2) : ex n (.for g as tg b) Γ = .ok f (unlockA (locks Γ1 ls) Γ2) := by
  rw [ex, h1]
  simp only [Rs.bind, h2, h3, h6, Rs.mapG]
end
/-- a comprehension with one name over a datum, without changes -/
theorem lc_one {Γ : List Slot} {g : List D → Option (List D)} {as : Ta} {j : Nat} {c e : Tm} {ls : List Vl} {ds xs : List D} {p : D → Bool} {f : D → D} (h1 : evA as Γ = .ok ls Γ) (hlk : locks Γ ls = []) (h2 : resA Γ ls = some ds) (h3 : g ds = some xs) (h4 : xs.length ≤ LIM) (hj : Γ[j]? = some .no)
    (h : ∀ x ∈ xs, ev c (Γ.set j (.dat x)) = .ok (.dat (.bl (p x))) (Γ.set j (.dat x)) ∧ (p x = true → ev e (Γ.set j (.dat x)) = .ok (.dat (f x)) (Γ.set j (.dat x)))) :
    ev (.lc g as (.nm j) [j] c e) Γ = .ok (.new (.lst ((xs.filter p).map f))) Γ := by
  have hlt : j < Γ.length := (List.getElem?_eq_some_iff.mp hj).1
  have hs : Γ.set j .no = Γ := by
    refine List.ext_getElem? fun i => ?_
    by_cases q : j = i
    · subst q; rw [List.getElem?_set_self hlt, hj]
    · rw [List.getElem?_set_ne q]
  have nm : noMut [j] Γ = true := by simp [noMut, hj]
  have lp : lcLoop (ev c) (ev e) (.nm j) [j] xs [] (wipeG [j] (lockA (locks Γ ls) Γ)) = .ok ((xs.filter p).map f) Γ := by
    rw [hlk]
    show lcLoop (ev c) (ev e) (.nm j) [j] xs [] (Γ.set j .no) = _
    rw [hs, lc_pure (c := p) (f := f) fun x hx => ⟨Γ.set j (.dat x), by simp [bnd, hlt], (h x hx).1, (h x hx).2, by
      show (Γ.set j (.dat x)).set j .no = Γ
      rw [List.set_set, hs]⟩]
    simp
  rw [ev_lc h1 h2 h3 h4 nm lp, hlk]
  show Rs.ok _ (Γ.set j (Γ[j]?.getD .no)) = _
  rw [hj]
  show Rs.ok _ (Γ.set j .no) = _
  rw [hs]
theorem lc_one_map {Γ : List Slot} {g : List D → Option (List D)} {as : Ta} {j : Nat} {e : Tm} {ls : List Vl} {ds xs : List D} {f : D → D} (h1 : evA as Γ = .ok ls Γ) (hlk : locks Γ ls = []) (h2 : resA Γ ls = some ds) (h3 : g ds = some xs) (h4 : xs.length ≤ LIM) (hj : Γ[j]? = some .no)
    (h : ∀ x ∈ xs, ev e (Γ.set j (.dat x)) = .ok (.dat (f x)) (Γ.set j (.dat x))) :
    ev (.lc g as (.nm j) [j] (.con (.bl true)) e) Γ = .ok (.new (.lst (xs.map f))) Γ := by
  rw [lc_one (p := fun _ => true) (f := f) h1 hlk h2 h3 h4 hj fun x hx => ⟨ev_con, fun _ => h x hx⟩]
  rw [List.filter_eq_self.mpr fun _ _ => rfl]
@[simp] theorem pb_add (i j : Int) : pBin .Add [.int i, .int j] = some (.dat (.int (i + j))) := rfl
@[simp] theorem pb_sub (i j : Int) : pBin .Sub [.int i, .int j] = some (.dat (.int (i - j))) := rfl
theorem pb_mul {i j : Int} (h : mulB i j = true) : pBin .Mult [.int i, .int j] = some (.dat (.int (i * j))) := if_pos h
theorem pb_mod {i j : Int} (h : 0 < j) : pBin .Mod [.int i, .int j] = some (.dat (.int (i % j))) := if_pos h
theorem mul_l {i j : Int} (h : i.natAbs < 18446744073709551616) : mulB i j = true := by simp [mulB, h]
theorem mul_r {i j : Int} (h : j.natAbs < 18446744073709551616) : mulB i j = true := by simp [mulB, h]
theorem mul_mod {x m j : Int} (h0 : 0 < m) (h : m < 18446744073709551616) : mulB (x % m) j = true := by
  have := Int.emod_nonneg x (show m ≠ 0 by omega)
  have := Int.emod_lt_of_pos x h0
  exact mul_l (by omega)
theorem shp_int (i : Int) : shp (.int i) = some (.int i) := rfl
theorem shp_non : shp .non = some .none := rfl
theorem shp_bl (b : Bool) : shp (.bl b) = some (.bool b) := rfl
theorem pEq_nil (ds : List D) : pCmp .Eq [.lst ds, .lst []] = some (.dat (.bl ds.isEmpty)) := by
  cases ds with
  | nil => rfl
  | cons d ds => simp [pCmp, pEqF]
@[simp] theorem lt_i (i j : Int) : pCmp .Lt [.int i, .int j] = some (.dat (.bl (decide (i < j)))) := rfl
@[simp] theorem le_i (i j : Int) : pCmp .LtE [.int i, .int j] = some (.dat (.bl (decide (i ≤ j)))) := rfl
@[simp] theorem gt_i (i j : Int) : pCmp .Gt [.int i, .int j] = some (.dat (.bl (decide (j < i)))) := rfl
@[simp] theorem ge_i (i j : Int) : pCmp .GtE [.int i, .int j] = some (.dat (.bl (decide (j ≤ i)))) := rfl
@[simp] theorem isnot_n (d : D) : pCmp .IsNot [d, .non] = some (.dat (.bl (!isNon d))) := by cases d <;> rfl
@[simp] theorem is_n (d : D) : pCmp .Is [d, .non] = some (.dat (.bl (isNon d))) := by cases d <;> rfl
theorem eqInt (i j : Int) : pCmp .Eq [.int i, .int j] = some (.dat (.bl (i == j))) := rfl
theorem neStr {x : Str} (h : PyData.strOk x = true) : pCmp .NotEq [.str x, .str x] = some (.dat (.bl false)) := by
  have : shp (.str x) = some (.str x) := by
    simp [shp, toPy, SeqAt.shaped, PyData.canLay0, h, PyData.depth]
  simp [pCmp, pEq, this, PyData.eqv]
def oD : Option Int → D
  | none => .non
  | some i => .int i
theorem toPy_o (o : Option Int) : ∃ p, toPy (oD o) = some p ∧ p.canLay0 = true ∧ p.depth = 0 ∧ PyData.eqv p .none = o.isNone := by
  cases o with
  | none => exact ⟨_, rfl, rfl, rfl, rfl⟩
  | some i => exact ⟨_, rfl, rfl, rfl, rfl⟩
theorem toPy_os : ∀ (os : List (Option Int)), ∃ ps, toPyA (os.map oD) = some ps ∧ PyData.canLayAll0 ps = true ∧ PyData.depthAll ps = 0 ∧ (ps.any fun z => PyData.eqv z .none) = os.any Option.isNone
  | [] => ⟨[], rfl, rfl, rfl, rfl⟩
  | o :: os => by
    obtain ⟨p, a1, a2, a3, a4⟩ := toPy_o o
    obtain ⟨ps, b1, b2, b3, b4⟩ := toPy_os os
    refine ⟨p :: ps, by simp [toPyA, a1, b1], by simp [PyData.canLayAll0, a2, b2], by simp [PyData.depthAll, a3, b3], by simp [a4, ← b4]⟩
theorem in_none (os : List (Option Int)) : pCmp .In [.non, .lst (os.map oD)] = some (.dat (.bl (os.any Option.isNone))) := by
  obtain ⟨ps, b1, b2, b3, b4⟩ := toPy_os os
  have : shp (.lst (os.map oD)) = some (.list ps) := by
    simp [shp, toPy, b1, SeqAt.shaped, PyData.canLay0, b2, PyData.depth, b3]
  simp [pCmp, pIn, this, shp_non, b4]
theorem ints_some : ∀ (os : List (Option Int)), os.any Option.isNone = false → ints? (os.map oD) = some (os.map (·.getD 0))
  | [], _ => rfl
  | o :: os, h => by
    cases o with
    | none => simp at h
    | some i =>
      simp only [List.any_cons, Option.isNone_some, Bool.false_or] at h
      simp [oD, ints?, ints_some os h]
theorem ints_map {α : Type} (f : α → Int) : ∀ (l : List α), ints? (l.map fun x => D.int (f x)) = some (l.map f)
  | [] => rfl
  | x :: l => by simp [ints?, ints_map f l]
end MP

end
-- Head_k54
section
namespace Hd
open PySem PySem.Spec PyProof.Rows L2 MP
def top (i : Nat) : Stmt := PySem.Challenge.pw_loadgaps_k54_bounded_jobs.main.body.getD i (.Pass ⟨0, 0, 0, 0⟩)
def inC (s : Stmt) (i : Nat) : Stmt := match s with
  | .ClassDef _ _ _ b _ _ _ _ _ _ _ => b.getD i (.Pass ⟨0, 0, 0, 0⟩)
  | _ => .Pass ⟨0, 0, 0, 0⟩
abbrev s_f_is_integer : Stmt := top 8
abbrev s_f_is_between : Stmt := top 9
abbrev s_f_is_window : Stmt := top 13
abbrev s_f_is_edge : Stmt := top 14
abbrev s_f_gaps_of : Stmt := top 15
abbrev s_f_moved_edges : Stmt := top 16
abbrev s_f_onward_order : Stmt := top 17
abbrev s_f_ways_by : Stmt := top 18
abbrev s_f_require_jobs : Stmt := top 20
abbrev s_f_require_word : Stmt := top 28
abbrev s_f_is_number_for : Stmt := top 29
abbrev s_f_bounded_window : Stmt := top 30
abbrev s_f_bounded_in : Stmt := top 31
abbrev s_f_bounded : Stmt := top 32
abbrev s_f__law_start : Stmt := top 34
abbrev s_f__law_throw : Stmt := top 35
abbrev s_f__law_pick : Stmt := top 36
abbrev s_f__law_shuffled : Stmt := top 37
abbrev s_f__law_linked : Stmt := top 38
abbrev s_f__law_drawn_spans : Stmt := top 39
abbrev s_f__law_pushing_jobs : Stmt := top 40
abbrev s_f__law_holed_jobs : Stmt := top 41
abbrev s_f__law_turned : Stmt := top 42
abbrev s_f__law_plan : Stmt := top 43
abbrev s_f__law_object : Stmt := top 44
abbrev s_f__law_bounded : Stmt := top 45
abbrev s_f__law_wide : Stmt := top 46
abbrev s_f__law_right : Stmt := top 47
abbrev s_f_law : Stmt := top 48
abbrev s_c_Jobs___init__ : Stmt := inC (top 19) 0
abbrev s_c_Jobs_windows : Stmt := inC (top 19) 1
abbrev s_c_Jobs_edges : Stmt := inC (top 19) 2
abbrev s_c_Jobs_with_windows_in : Stmt := inC (top 19) 7
abbrev s_c_Jobs___eq__ : Stmt := inC (top 19) 17
def d_f_is_integer : DefM := ⟨gAd "is_integer", "is_integer", "is_integer", defArgs s_f_is_integer, defBody s_f_is_integer, defScope s_f_is_integer, []⟩
def d_f_is_between : DefM := ⟨gAd "is_between", "is_between", "is_between", defArgs s_f_is_between, defBody s_f_is_between, defScope s_f_is_between, []⟩
def d_f_is_window : DefM := ⟨gAd "is_window", "is_window", "is_window", defArgs s_f_is_window, defBody s_f_is_window, defScope s_f_is_window, []⟩
def d_f_is_edge : DefM := ⟨gAd "is_edge", "is_edge", "is_edge", defArgs s_f_is_edge, defBody s_f_is_edge, defScope s_f_is_edge, []⟩
def d_f_gaps_of : DefM := ⟨gAd "gaps_of", "gaps_of", "gaps_of", defArgs s_f_gaps_of, defBody s_f_gaps_of, defScope s_f_gaps_of, []⟩
def d_f_moved_edges : DefM := ⟨gAd "moved_edges", "moved_edges", "moved_edges", defArgs s_f_moved_edges, defBody s_f_moved_edges, defScope s_f_moved_edges, []⟩
def d_f_onward_order : DefM := ⟨gAd "onward_order", "onward_order", "onward_order", defArgs s_f_onward_order, defBody s_f_onward_order, defScope s_f_onward_order, []⟩
def d_f_ways_by : DefM := ⟨gAd "ways_by", "ways_by", "ways_by", defArgs s_f_ways_by, defBody s_f_ways_by, defScope s_f_ways_by, []⟩
def d_f_require_jobs : DefM := ⟨gAd "require_jobs", "require_jobs", "require_jobs", defArgs s_f_require_jobs, defBody s_f_require_jobs, defScope s_f_require_jobs, []⟩
def d_f_require_word : DefM := ⟨gAd "require_word", "require_word", "require_word", defArgs s_f_require_word, defBody s_f_require_word, defScope s_f_require_word, []⟩
def d_f_is_number_for : DefM := ⟨gAd "is_number_for", "is_number_for", "is_number_for", defArgs s_f_is_number_for, defBody s_f_is_number_for, defScope s_f_is_number_for, []⟩
def d_f_bounded_window : DefM := ⟨gAd "bounded_window", "bounded_window", "bounded_window", defArgs s_f_bounded_window, defBody s_f_bounded_window, defScope s_f_bounded_window, []⟩
def d_f_bounded_in : DefM := ⟨gAd "bounded_in", "bounded_in", "bounded_in", defArgs s_f_bounded_in, defBody s_f_bounded_in, defScope s_f_bounded_in, []⟩
def d_f_bounded : DefM := ⟨gAd "bounded", "bounded", "bounded", defArgs s_f_bounded, defBody s_f_bounded, defScope s_f_bounded, []⟩
def d_f__law_start : DefM := ⟨gAd "_law_start", "_law_start", "_law_start", defArgs s_f__law_start, defBody s_f__law_start, defScope s_f__law_start, []⟩
def d_f__law_throw : DefM := ⟨gAd "_law_throw", "_law_throw", "_law_throw", defArgs s_f__law_throw, defBody s_f__law_throw, defScope s_f__law_throw, []⟩
def d_f__law_pick : DefM := ⟨gAd "_law_pick", "_law_pick", "_law_pick", defArgs s_f__law_pick, defBody s_f__law_pick, defScope s_f__law_pick, []⟩
def d_f__law_shuffled : DefM := ⟨gAd "_law_shuffled", "_law_shuffled", "_law_shuffled", defArgs s_f__law_shuffled, defBody s_f__law_shuffled, defScope s_f__law_shuffled, []⟩
def d_f__law_linked : DefM := ⟨gAd "_law_linked", "_law_linked", "_law_linked", defArgs s_f__law_linked, defBody s_f__law_linked, defScope s_f__law_linked, []⟩
def d_f__law_drawn_spans : DefM := ⟨gAd "_law_drawn_spans", "_law_drawn_spans", "_law_drawn_spans", defArgs s_f__law_drawn_spans, defBody s_f__law_drawn_spans, defScope s_f__law_drawn_spans, []⟩
def d_f__law_pushing_jobs : DefM := ⟨gAd "_law_pushing_jobs", "_law_pushing_jobs", "_law_pushing_jobs", defArgs s_f__law_pushing_jobs, defBody s_f__law_pushing_jobs, defScope s_f__law_pushing_jobs, []⟩
def d_f__law_holed_jobs : DefM := ⟨gAd "_law_holed_jobs", "_law_holed_jobs", "_law_holed_jobs", defArgs s_f__law_holed_jobs, defBody s_f__law_holed_jobs, defScope s_f__law_holed_jobs, []⟩
def d_f__law_turned : DefM := ⟨gAd "_law_turned", "_law_turned", "_law_turned", defArgs s_f__law_turned, defBody s_f__law_turned, defScope s_f__law_turned, []⟩
def d_f__law_plan : DefM := ⟨gAd "_law_plan", "_law_plan", "_law_plan", defArgs s_f__law_plan, defBody s_f__law_plan, defScope s_f__law_plan, []⟩
def d_f__law_object : DefM := ⟨gAd "_law_object", "_law_object", "_law_object", defArgs s_f__law_object, defBody s_f__law_object, defScope s_f__law_object, []⟩
def d_f__law_bounded : DefM := ⟨gAd "_law_bounded", "_law_bounded", "_law_bounded", defArgs s_f__law_bounded, defBody s_f__law_bounded, defScope s_f__law_bounded, []⟩
def d_f__law_wide : DefM := ⟨gAd "_law_wide", "_law_wide", "_law_wide", defArgs s_f__law_wide, defBody s_f__law_wide, defScope s_f__law_wide, []⟩
def d_f__law_right : DefM := ⟨gAd "_law_right", "_law_right", "_law_right", defArgs s_f__law_right, defBody s_f__law_right, defScope s_f__law_right, []⟩
def d_f_law : DefM := ⟨gAd "law", "law", "law", defArgs s_f_law, defBody s_f_law, defScope s_f_law, []⟩
def d_c_Jobs___init__ : DefM := ⟨mAd "Jobs" "__init__", "__init__", "Jobs.__init__", defArgs s_c_Jobs___init__, defBody s_c_Jobs___init__, defScope s_c_Jobs___init__, [.adr (He.dflAt ("Jobs", some "__init__") 0)]⟩
def d_c_Jobs_windows : DefM := ⟨pAd "Jobs" "windows", "windows", "Jobs.windows", defArgs s_c_Jobs_windows, defBody s_c_Jobs_windows, defScope s_c_Jobs_windows, []⟩
def d_c_Jobs_edges : DefM := ⟨pAd "Jobs" "edges", "edges", "Jobs.edges", defArgs s_c_Jobs_edges, defBody s_c_Jobs_edges, defScope s_c_Jobs_edges, []⟩
def d_c_Jobs_with_windows_in : DefM := ⟨mAd "Jobs" "with_windows_in", "with_windows_in", "Jobs.with_windows_in", defArgs s_c_Jobs_with_windows_in, defBody s_c_Jobs_with_windows_in, defScope s_c_Jobs_with_windows_in, []⟩
def d_c_Jobs___eq__ : DefM := ⟨mAd "Jobs" "__eq__", "__eq__", "Jobs.__eq__", defArgs s_c_Jobs___eq__, defBody s_c_Jobs___eq__, defScope s_c_Jobs___eq__, []⟩
def fn : List DefM := [d_f_is_integer, d_f_is_between, d_f_is_window, d_f_is_edge, d_f_gaps_of, d_f_moved_edges, d_f_onward_order, d_f_ways_by, d_f_require_jobs, d_f_require_word, d_f_is_number_for, d_f_bounded_window, d_f_bounded_in, d_f_bounded, d_f__law_start, d_f__law_throw, d_f__law_pick, d_f__law_shuffled, d_f__law_linked, d_f__law_drawn_spans, d_f__law_pushing_jobs, d_f__law_holed_jobs, d_f__law_turned, d_f__law_plan, d_f__law_object, d_f__law_bounded, d_f__law_wide, d_f__law_right, d_f_law, d_c_Jobs___init__, d_c_Jobs_windows, d_c_Jobs_edges, d_c_Jobs_with_windows_in, d_c_Jobs___eq__]
def fs : List Fb := [.fa (.glo "is_integer"), .fa (.glo "is_between"), .fa (.glo "is_window"), .fa (.glo "is_edge"), .fa (.glo "gaps_of"), .fa (.glo "moved_edges"), .fa (.glo "onward_order"), .fa (.glo "ways_by"), .fa (.glo "require_jobs"), .fa (.glo "require_word"), .fa (.glo "is_number_for"), .fa (.glo "bounded_window"), .fa (.glo "bounded_in"), .fa (.glo "bounded"), .fa (.glo "_law_start"), .fa (.glo "_law_throw"), .fa (.glo "_law_pick"), .fa (.glo "_law_shuffled"), .fa (.glo "_law_linked"), .fa (.glo "_law_drawn_spans"), .fa (.glo "_law_pushing_jobs"), .fa (.glo "_law_holed_jobs"), .fa (.glo "_law_turned"), .fa (.glo "_law_plan"), .fa (.glo "_law_object"), .fa (.glo "_law_bounded"), .fa (.glo "_law_wide"), .fa (.glo "_law_right"), .fa (.glo "law"), .fa (.mkr "Jobs"), .prop "Jobs" "windows", .prop "Jobs" "edges", .fa (.meth "Jobs" "with_windows_in"), .fa (.meth "Jobs" "__eq__"), .fa (.free "set"), .fa (.free "len"), .fa (.free "abs"), .fa (.free "int"), .fa (.free "max"), .fa (.free "min"), .fa (.free "sum"), .fa (.free "all"), .fa (.free "any"), .fa (.free "tuple"), .fa (.free "list"), .fa (.free "sorted"), .fa (.free "repr"), .fa (.free "isinstance"), .fa (.free "range"), .fa (.free "enumerate"), .fa (.free "str"), .fa (.free "bool"), .fa (.free "dict"), .fa (.int "MAX_JOBS" 40), .fa (.int "MAX_SLOT" 99), .fa (.int "MOST" 100), .fa (.glo "Jobs"), .fa (.cls "Jobs"), .isn "Jobs", .eqs "Jobs", .isi "Jobs" "Jobs" true, .fa (.noat "Jobs" "own_windows"), .fa (.noat "Jobs" "own_gaps"), .fa (.noat "Jobs" "own_order"), .fa (.noat "Jobs" "own_ways"), .dtup ("Jobs", some "__init__") 0, .fa (.glo "LEAST"), .wd "LEAST" [("length", 1), ("begin", 0), ("late", 0)]]
def ts : List He.Tab := [(gAd "LEAST", ["length", "begin", "late"])]
abbrev R : PySem.W.OpenRow := PySem.W.OpenLaw.row PySem.Challenge.rw_loadgaps_k54_bounded_jobs
abbrev hk : PySem.W.Hook := hookM 7 fs fn ts
def ob (s : PySem.W.SharedT) : AlM := obsMG 7 fs fn ts (HandSHeadRun.getT s)
theorem ob_eq (s : PySem.W.SharedT) : ob s = hk.obs s.abs := obsMG_eq (HandSHeadRun.getT_eq s)
def nm0 : List PySem.Str := ["_wall", "GapError", "InvalidJobs", "InvalidOperation", "InvalidNumber", "TooMany", "is_integer", "is_between", "MAX_JOBS", "MAX_SLOT", "is_window", "is_edge", "gaps_of", "moved_edges", "onward_order", "ways_by", "Jobs", "require_jobs"]
def nm1 : List PySem.Str := ["require_job", "LENGTH", "BEGIN", "LATE", "LEAST", "MOST", "require_word", "is_number_for", "bounded_window", "bounded_in", "bounded", "_law_start", "_law_throw", "_law_pick", "_law_shuffled", "_law_linked", "_law_drawn_spans", "_law_pushing_jobs"]
def nm2 : List PySem.Str := ["_law_holed_jobs", "_law_turned", "_law_plan", "_law_object", "_law_bounded", "_law_wide", "_law_right"]
def names : List PySem.Str := nm0 ++ nm1 ++ nm2
theorem run_false (w : World) : HandSHeadRun.RunEq R (PySem.W.view R.prog [48]) hk ob 20000 names (w.withFollow "special-get-raises" false) := by
  intro os
  kernel_rfl
theorem run_true (w : World) : HandSHeadRun.RunEq R (PySem.W.view R.prog [48]) hk ob 20000 names (w.withFollow "special-get-raises" true) := by
  intro os
  kernel_rfl
theorem run (w : World) : HandSHeadRun.RunEq R (PySem.W.view R.prog [48]) hk ob 20000 names w :=
  PySem.W.byRow2 "special-get-raises" (P := fun w => HandSHeadRun.RunEq R (PySem.W.view R.prog [48]) hk ob 20000 names w) run_false run_true w
end Hd

end
-- Cp_k54
section
namespace Lw
open PySem L2 MP
structure Fs where
  f_is_integer : Fn
  f_is_between : Fn
  f_is_window : Fn
  f_is_edge : Fn
  f_gaps_of : Fn
  f_moved_edges : Fn
  f_onward_order : Fn
  f_ways_by : Fn
  f_require_jobs : Fn
  f_require_word : Fn
  f_is_number_for : Fn
  f_bounded_window : Fn
  f_bounded_in : Fn
  f_bounded : Fn
  f__law_start : Fn
  f__law_throw : Fn
  f__law_pick : Fn
  f__law_shuffled : Fn
  f__law_linked : Fn
  f__law_drawn_spans : Fn
  f__law_pushing_jobs : Fn
  f__law_holed_jobs : Fn
  f__law_turned : Fn
  f__law_plan : Fn
  f__law_object : Fn
  f__law_bounded : Fn
  f__law_wide : Fn
  f__law_right : Fn
  f_law : Fn
  c_Jobs___init__ : Fn
  c_Jobs_windows : Fn
  c_Jobs_edges : Fn
  c_Jobs_with_windows_in : Fn
  c_Jobs___eq__ : Fn
def w_LEAST : List (Str × Int) := [("length", 1), ("begin", 0), ("late", 0)]
def pr_windows (g : Fs) : List (Str × Fn) := [("Jobs", g.c_Jobs_windows)]
def pr_edges (g : Fs) : List (Str × Fn) := [("Jobs", g.c_Jobs_edges)]
def me_with_windows_in_1 (g : Fs) : List (Str × Fn) := [("Jobs", g.c_Jobs_with_windows_in)]
def eqs (g : Fs) : List (Str × Fn) := [("Jobs", g.c_Jobs___eq__)]
def tm_f_is_integer (g : Fs) : Ss := (.cons (.ret (.and (.prim (pIsi "int") (.cons (.var 0) .nil)) (.not (.prim (pIsi "bool") (.cons (.var 0) .nil)))))
   .nil)
def tm_f_is_between (g : Fs) : Ss := (.cons (.ret (.and (.call g.f_is_integer (.cons (.var 0) .nil)) (.and (.prim (pCmpT .LtE) (.cons (.var 1) (.cons (.var 0) .nil))) (.or (.prim (pCmpT .Is) (.cons (.var 2) (.cons (.con .non) .nil))) (.prim (pCmpT .LtE) (.cons (.var 0) (.cons (.var 2) .nil)))))))
   .nil)
def tm_f_is_window (g : Fs) : Ss := (.cons (.ite (.or (.not (.prim pTru (.cons (.prim (pIsi "tuple") (.cons (.var 0) .nil)) .nil))) (.prim (pCmpT .NotEq) (.cons (.prim pLen (.cons (.var 0) .nil)) (.cons (.con (.int 2)) .nil)))) (.cons (.ret (.con (.bl false)))
   .nil) .nil)
   (.cons (.ret (.and (.call g.f_is_between (.cons (.prim (orP pIx pDIx) (.cons (.var 0) (.cons (.con (.int 0)) .nil))) (.cons (.con (.int 0)) (.cons (.prim (pBin .Add) (.cons (.con (.int 99)) (.cons (.con (.int 1)) .nil))) .nil)))) (.call g.f_is_between (.cons (.prim (orP pIx pDIx) (.cons (.var 0) (.cons (.con (.int 1)) .nil))) (.cons (.con (.int 0)) (.cons (.con (.int 99)) .nil))))))
   .nil))
def tm_f_is_edge (g : Fs) : Ss := (.cons (.ite (.or (.not (.prim pTru (.cons (.prim (pIsi "tuple") (.cons (.var 1) .nil)) .nil))) (.or (.prim (pCmpT .NotEq) (.cons (.prim pLen (.cons (.var 1) .nil)) (.cons (.con (.int 3)) .nil))) (.not (.prim pTru (.cons (.prim pAll (.cons (.lc gSeq (.cons (.var 1) .nil) (.nm 2) [2] (.con (.bl true)) (.call g.f_is_integer (.cons (.var 2) .nil))) .nil)) .nil))))) (.cons (.ret (.con (.bl false)))
   .nil) .nil)
   (.cons (.unp (.cons (.nm 3) (.cons (.nm 4) (.cons (.nm 5) .nil))) (.var 1))
   (.cons (.ret (.and (.chn (pCmp .LtE) (pCmp .Lt) (.con (.int 0)) (.var 3) (.var 0)) (.and (.chn (pCmp .LtE) (pCmp .Lt) (.con (.int 0)) (.var 4) (.var 0)) (.and (.prim (pCmpT .NotEq) (.cons (.var 3) (.cons (.var 4) .nil))) (.prim (pCmpT .In) (.cons (.var 5) (.cons (.mk dTup (.cons (.con (.int 0)) (.cons (.con (.int 1)) .nil))) .nil)))))))
   .nil)))
def tm_f_gaps_of (g : Fs) : Ss := (.cons (.set 1 (.mk dDct .nil))
   (.cons (.for gSeq (.cons (.prim (orP pSrt pSrtT) (.cons (.prim (orP pLst pLstD) (.cons (.var 0) .nil)) .nil)) .nil) (.cons (.nm 2) (.cons (.nm 3) (.cons (.nm 4) .nil))) (.cons (.sub (orT stL stDc) 1 (.mk dTup (.cons (.var 2) (.cons (.var 3) .nil))) (.var 4))
   .nil))
   (.cons (.ret (.var 1))
   .nil)))
def tm_f_moved_edges (g : Fs) : Ss := (.cons (.ret (.prim pTup (.cons (.lc gItems (.cons (.ess (.var 0)) .nil) (.cons (.cons (.nm 2) (.cons (.nm 3) .nil)) (.cons (.nm 4) .nil)) [2, 3, 4] (.con (.bl true)) (.mk dTup (.cons (.prim (pBin .Add) (.cons (.var 2) (.cons (.var 1) .nil))) (.cons (.prim (pBin .Add) (.cons (.var 3) (.cons (.var 1) .nil))) (.cons (.var 4) .nil))))) .nil)))
   .nil)
def tm_f_onward_order (g : Fs) : Ss := (.cons (.unp (.cons (.nm 2) (.cons (.nm 3) .nil)) (.mk dTup (.cons (.mk dLst .nil) (.cons (.prim pLRg (.cons (.var 0) .nil)) .nil))))
   (.cons (.whl (.prim (pCmpT .NotEq) (.cons (.var 3) (.cons (.mk dLst .nil) .nil))) (.cons (.set 4 (.lc gSeq (.cons (.var 3) .nil) (.nm 5) [5] (.not (.prim pTru (.cons (.prim pAny (.cons (.lc gSeq (.cons (.var 3) .nil) (.nm 6) [6] (.con (.bl true)) (.prim (pCmpT .In) (.cons (.mk dTup (.cons (.var 6) (.cons (.var 5) .nil))) (.cons (.var 1) .nil)))) .nil)) .nil))) (.var 5)))
   (.cons (.ite (.prim (pCmpT .Eq) (.cons (.var 4) (.cons (.mk dLst .nil) .nil))) (.cons (.ret (.con .non))
   .nil) .nil)
   (.cons (.set 2 (.prim (pBin .Add) (.cons (.var 2) (.cons (.var 4) .nil))))
   (.cons (.set 3 (.lc gSeq (.cons (.var 3) .nil) (.nm 5) [5] (.prim (pCmpT .NotIn) (.cons (.var 5) (.cons (.var 4) .nil))) (.var 5)))
   .nil)))))
   (.cons (.ret (.var 2))
   .nil)))
def tm_f_ways_by (g : Fs) : Ss := (.cons (.set 3 (.mk dDct .nil))
   (.cons (.for gSeq (.cons (.prim pRev (.cons (.var 2) .nil)) .nil) (.nm 4) (.cons (.set 5 (.mk dDc1 (.cons (.var 4) (.cons (.con (.int 0)) .nil))))
   (.cons (.for gItems (.cons (.ess (.var 1)) .nil) (.cons (.cons (.nm 6) (.cons (.nm 7) .nil)) (.cons (.nm 8) .nil)) (.cons (.ite (.prim (pCmpT .Eq) (.cons (.var 6) (.cons (.var 4) .nil))) (.cons (.for gItems (.cons (.ess (.prim (orP pIx pDIx) (.cons (.var 3) (.cons (.var 7) .nil)))) .nil) (.cons (.nm 9) (.cons (.nm 10) .nil)) (.cons (.sub (orT stL stDc) 5 (.var 9) (.prim pMax (.cons (.mk dLst (.cons (.rcv isDct pDGet (.var 5) (.cons (.var 9) (.cons (.con (.int 0)) .nil))) (.cons (.prim (pBin .Add) (.cons (.prim (pBin .Add) (.cons (.var 10) (.cons (.con (.int 1)) .nil))) (.cons (.var 8) .nil))) .nil))) .nil)))
   .nil))
   .nil) .nil)
   .nil))
   (.cons (.sub (orT stL stDc) 3 (.var 4) (.dc gSeq (.cons (.prim (orP pSrt pSrtT) (.cons (.prim (orP pLst pLstD) (.cons (.var 5) .nil)) .nil)) .nil) (.nm 9) [9] (.con (.bl true)) (.var 9) (.prim (orP pIx pDIx) (.cons (.var 5) (.cons (.var 9) .nil)))))
   .nil))))
   (.cons (.ret (.lc gRng1 (.cons (.var 0) .nil) (.nm 4) [4] (.con (.bl true)) (.prim (orP pIx pDIx) (.cons (.var 3) (.cons (.var 4) .nil)))))
   .nil)))
def tm_f_require_jobs (g : Fs) : Ss := (.cons (.ite (.not (.prim pTru (.cons (.prim (pIsC [("Jobs", true)]) (.cons (.var 0) .nil)) .nil))) (.cons .nev
   .nil) .nil)
   .nil)
def tm_f_require_word (g : Fs) : Ss := (.cons (.ite (.or (.not (.prim pTru (.cons (.prim (pIsi "str") (.cons (.var 0) .nil)) .nil))) (.prim (pKIn true w_LEAST) (.cons (.var 0) .nil))) (.cons .nev
   .nil) .nil)
   .nil)
def tm_f_is_number_for (g : Fs) : Ss := (.cons (.ret (.call g.f_is_between (.cons (.var 1) (.cons (.prim (pKIx w_LEAST) (.cons (.var 0) .nil)) (.cons (.con (.int 100)) .nil)))))
   .nil)
def tm_f_bounded_window (g : Fs) : Ss := (.cons (.unp (.cons (.nm 3) (.cons (.nm 4) .nil)) (.var 0))
   (.cons (.ite (.prim pYes (.cons (.var 1) .nil)) (.cons (.ite (.prim (pCmp .Eq) (.cons (.var 1) (.cons (.con (.str "length")) .nil))) (.cons (.ret (.mk dTup (.cons (.var 3) (.cons (.prim pMin (.cons (.mk dLst (.cons (.var 4) (.cons (.prim (pBin .Sub) (.cons (.var 2) (.cons (.con (.int 1)) .nil))) .nil))) .nil)) .nil))))
   .nil) (.cons (.ite (.prim (pCmp .Eq) (.cons (.var 1) (.cons (.con (.str "begin")) .nil))) (.cons (.ret (.mk dTup (.cons (.prim pMax (.cons (.mk dLst (.cons (.var 3) (.cons (.var 2) .nil))) .nil)) (.cons (.var 4) .nil))))
   .nil) .nil) .nil)) .nil) .nil)
   (.cons (.ret (.mk dTup (.cons (.var 3) (.cons (.prim pMin (.cons (.mk dLst (.cons (.prim (pBin .Add) (.cons (.var 4) (.cons (.var 2) .nil))) (.cons (.con (.int 99)) .nil))) .nil)) .nil))))
   .nil)))
def tm_f_bounded_in (g : Fs) : Ss := (.cons (.set 3 (.dc gEnB (.cons (.prim (pFld ["Jobs"] "own_windows") (.cons (.var 0) .nil)) .nil) (.cons (.nm 4) (.cons (.nm 5) .nil)) [4, 5] (.con (.bl true)) (.var 4) (.call g.f_bounded_window (.cons (.var 5) (.cons (.var 1) (.cons (.var 2) .nil))))))
   (.cons (.ret (.meth (selM "with_windows_in" (me_with_windows_in_1 g)) (.var 0) (.cons (.var 3) .nil)))
   .nil))
def tm_f_bounded (g : Fs) : Ss := (.cons (.drop (.call g.f_require_jobs (.cons (.var 0) .nil)))
   (.cons (.drop (.call g.f_require_word (.cons (.var 1) .nil)))
   (.cons (.ite (.not (.prim pTru (.cons (.call g.f_is_number_for (.cons (.var 1) (.cons (.var 2) .nil))) .nil))) (.cons .nev
   .nil) .nil)
   (.cons (.ret (.call g.f_bounded_in (.cons (.var 0) (.cons (.var 1) (.cons (.var 2) .nil)))))
   .nil))))
def tm_f__law_start (g : Fs) : Ss := (.cons (.set 2 (.prim (pBin .Add) (.cons (.prim (pBin .Mult) (.cons (.con (.int 23)) (.cons (.var 1) .nil))) (.cons (.con (.int 3)) .nil))))
   (.cons (.ite (.prim (pCmpT .Lt) (.cons (.var 1) (.cons (.prim pLen (.cons (.var 0) .nil)) .nil))) (.cons (.set 2 (.prim (orP pIx pDIx) (.cons (.var 0) (.cons (.var 1) .nil))))
   .nil) .nil)
   (.cons (.set 3 (.prim (pBin .Mod) (.cons (.prim pInt (.cons (.prim pAbs (.cons (.var 2) .nil)) .nil)) (.cons (.prim (pBin .Pow) (.cons (.prim (pBin .Pow) (.cons (.con (.int 10)) (.cons (.con (.int 60)) .nil))) (.cons (.con (.int 12)) .nil))) .nil))))
   (.cons (.set 4 (.prim (pBin .Add) (.cons (.prim (pBin .Add) (.cons (.prim (pBin .Add) (.cons (.prim (pBin .Mult) (.cons (.prim (pBin .Mod) (.cons (.prim pInt (.cons (.var 3) .nil)) (.cons (.con (.int 2147483587)) .nil))) (.cons (.con (.int 48271)) .nil))) (.cons (.prim (pBin .Mult) (.cons (.con (.int 4001)) (.cons (.var 1) .nil))) .nil))) (.cons (.prim (pBin .Mult) (.cons (.con (.int 13)) (.cons (.prim pInt (.cons (.prim (pCmpT .Lt) (.cons (.var 2) (.cons (.con (.int 0)) .nil))) .nil)) .nil))) .nil))) (.cons (.con (.int 37)) .nil))))
   (.cons (.ret (.mk dLst (.cons (.prim pMax (.cons (.con (.int 0)) (.cons (.prim (pBin .Sub) (.cons (.var 3) (.cons (.prim (pBin .Pow) (.cons (.con (.int 10)) (.cons (.con (.int 18)) .nil))) .nil))) .nil))) (.cons (.prim (pBin .Mod) (.cons (.prim pInt (.cons (.var 4) .nil)) (.cons (.con (.int 2147483549)) .nil))) (.cons (.con (.int 0)) .nil)))))
   .nil)))))
def tm_f__law_throw (g : Fs) : Ss := (.cons (.ite (.prim (pCmpT .Gt) (.cons (.prim (orP pIx pDIx) (.cons (.var 0) (.cons (.con (.int 0)) .nil))) (.cons (.con (.int 0)) .nil))) (.cons (.set 2 (.prim (pBin .Mod) (.cons (.prim pInt (.cons (.prim (orP pIx pDIx) (.cons (.var 0) (.cons (.con (.int 0)) .nil))) .nil)) (.cons (.var 1) .nil))))
   (.cons (.sub (orT stL stDc) 0 (.con (.int 0)) (.prim (pBin .FloorDiv) (.cons (.prim (orP pIx pDIx) (.cons (.var 0) (.cons (.con (.int 0)) .nil))) (.cons (.var 1) .nil))))
   (.cons (.ret (.var 2))
   .nil))) .nil)
   (.cons (.sub (orT stL stDc) 0 (.con (.int 2)) (.prim (pBin .Add) (.cons (.prim (orP pIx pDIx) (.cons (.var 0) (.cons (.con (.int 2)) .nil))) (.cons (.con (.int 1)) .nil))))
   (.cons (.set 3 (.prim (pBin .Mod) (.cons (.prim pInt (.cons (.prim (pBin .Add) (.cons (.prim (orP pIx pDIx) (.cons (.var 0) (.cons (.con (.int 1)) .nil))) (.cons (.prim (pBin .Mult) (.cons (.con (.int 1000213)) (.cons (.prim (orP pIx pDIx) (.cons (.var 0) (.cons (.con (.int 2)) .nil))) .nil))) .nil))) .nil)) (.cons (.con (.int 2305843009213693951)) .nil))))
   (.cons (.set 4 (.prim (pBin .Add) (.cons (.prim (pBin .Mult) (.cons (.prim (pBin .Mod) (.cons (.prim pInt (.cons (.prim (pBin .Mult) (.cons (.var 3) (.cons (.var 3) .nil))) .nil)) (.cons (.con (.int 2305843009213693907)) .nil))) (.cons (.var 3) .nil))) (.cons (.prim (pBin .Mult) (.cons (.con (.int 6007)) (.cons (.prim (orP pIx pDIx) (.cons (.var 0) (.cons (.con (.int 2)) .nil))) .nil))) .nil))))
   (.cons (.set 4 (.prim (pBin .Mod) (.cons (.prim pInt (.cons (.var 4) .nil)) (.cons (.con (.int 2305843009213693921)) .nil))))
   (.cons (.ret (.prim (pBin .Mod) (.cons (.prim pInt (.cons (.prim (pBin .FloorDiv) (.cons (.var 4) (.cons (.con (.int 4096)) .nil))) .nil)) (.cons (.var 1) .nil))))
   .nil))))))
def tm_f__law_pick (g : Fs) : Ss := (.cons (.ret (.prim (orP pIx pDIx) (.cons (.var 1) (.cons (.call g.f__law_throw (.cons (.var 0) (.cons (.prim pLen (.cons (.var 1) .nil)) .nil))) .nil))))
   .nil)
def tm_f__law_shuffled (g : Fs) : Ss := (.cons (.set 2 (.prim (orP pLst pLstD) (.cons (.var 1) .nil)))
   (.cons (.ret (.lc gRng1 (.cons (.prim pLen (.cons (.var 1) .nil)) .nil) (.nm 3) [3] (.con (.bl true)) (.mth isL mPop 2 (.cons (.call g.f__law_throw (.cons (.var 0) (.cons (.prim pLen (.cons (.var 2) .nil)) .nil))) .nil))))
   .nil))
def tm_f__law_linked (g : Fs) : Ss := (.cons (.par [3, 4] (.cons (.call g.f__law_shuffled (.cons (.var 0) (.cons (.prim pLRg (.cons (.var 1) .nil)) .nil))) (.cons (.mk dLst .nil) .nil)))
   (.cons (.for gEnB (.cons (.var 3) .nil) (.cons (.nm 5) (.cons (.nm 6) .nil)) (.cons (.for gSeq (.cons (.prim (pSl true false) (.cons (.var 3) (.cons (.prim (pBin .Add) (.cons (.var 5) (.cons (.con (.int 1)) .nil))) .nil))) .nil) (.nm 7) (.cons (.ite (.prim (pCmpT .Eq) (.cons (.call g.f__law_throw (.cons (.var 0) (.cons (.var 2) .nil))) (.cons (.con (.int 0)) .nil))) (.cons (.drop (.mth isL mApp 4 (.cons (.mk dTup (.cons (.var 6) (.cons (.var 7) (.cons (.call g.f__law_throw (.cons (.var 0) (.cons (.con (.int 2)) .nil))) .nil)))) .nil)))
   .nil) .nil)
   .nil))
   .nil))
   (.cons (.ret (.prim pTup (.cons (.prim (orP pSrt pSrtT) (.cons (.var 4) .nil)) .nil)))
   .nil)))
def tm_f__law_drawn_spans (g : Fs) : Ss := (.cons (.set 3 (.mk dLst .nil))
   (.cons (.for gRng1 (.cons (.var 1) .nil) (.nm 4) (.cons (.par [5, 6] (.cons (.call g.f__law_throw (.cons (.var 0) (.cons (.var 2) .nil))) (.cons (.call g.f__law_pick (.cons (.var 0) (.cons (.mk dLst (.cons (.con (.int 0)) (.cons (.con (.int 1)) (.cons (.con (.int 2)) (.cons (.con (.int 3)) (.cons (.var 2) (.cons (.var 2) (.cons (.var 2) .nil)))))))) .nil))) .nil)))
   (.cons (.ite (.prim (pCmpT .Eq) (.cons (.call g.f__law_throw (.cons (.var 0) (.cons (.con (.int 2)) .nil))) (.cons (.con (.int 0)) .nil))) (.cons (.set 5 (.con (.int 0)))
   .nil) .nil)
   (.cons (.set 7 (.prim pMin (.cons (.prim (pBin .Sub) (.cons (.var 2) (.cons (.con (.int 1)) .nil))) (.cons (.prim (pBin .Add) (.cons (.var 5) (.cons (.var 6) .nil))) .nil))))
   (.cons (.drop (.mth isL mApp 3 (.cons (.mk dTup (.cons (.var 5) (.cons (.ifx (.and (.prim (pCmpT .Eq) (.cons (.call g.f__law_throw (.cons (.var 0) (.cons (.con (.int 40)) .nil))) (.cons (.con (.int 0)) .nil))) (.prim (pCmpT .Gt) (.cons (.var 7) (.cons (.con (.int 0)) .nil)))) (.prim (pBin .Sub) (.cons (.var 7) (.cons (.con (.int 1)) .nil))) (.var 7)) .nil))) .nil)))
   .nil)))))
   (.cons (.ret (.prim pTup (.cons (.var 3) .nil)))
   .nil)))
def tm_f__law_pushing_jobs (g : Fs) : Ss := (.cons (.set 1 (.prim (pBin .Add) (.cons (.con (.int 2)) (.cons (.call g.f__law_throw (.cons (.var 0) (.cons (.con (.int 2)) .nil))) .nil))))
   (.cons (.par [2, 3] (.cons (.mk dLst (.cons (.mk dTup (.cons (.con (.int 0)) (.cons (.con (.int 9)) .nil))) .nil)) (.cons (.mk dLst .nil) .nil)))
   (.cons (.for gRng2 (.cons (.con (.int 1)) (.cons (.prim (pBin .Add) (.cons (.var 1) (.cons (.con (.int 1)) .nil))) .nil)) (.nm 4) (.cons (.drop (.mth isL mApp 2 (.cons (.mk dTup (.cons (.con (.int 0)) (.cons (.prim (pBin .Add) (.cons (.prim (pBin .Add) (.cons (.var 1) (.cons (.con (.int 1)) .nil))) (.cons (.call g.f__law_throw (.cons (.var 0) (.cons (.con (.int 2)) .nil))) .nil))) .nil))) .nil)))
   (.cons (.drop (.mth isL mApp 3 (.cons (.mk dTup (.cons (.con (.int 0)) (.cons (.var 4) (.cons (.con (.int 1)) .nil)))) .nil)))
   .nil)))
   (.cons (.drop (.mth isL mApp 2 (.cons (.mk dTup (.cons (.con (.int 0)) (.cons (.call g.f__law_pick (.cons (.var 0) (.cons (.mk dLst (.cons (.con (.int 0)) (.cons (.con (.int 0)) (.cons (.con (.int 1)) (.cons (.con (.int 2)) .nil))))) .nil))) .nil))) .nil)))
   (.cons (.ite (.prim (pCmpT .Eq) (.cons (.call g.f__law_throw (.cons (.var 0) (.cons (.con (.int 2)) .nil))) (.cons (.con (.int 0)) .nil))) (.cons (.drop (.mth isL mApp 2 (.cons (.mk dTup (.cons (.call g.f__law_throw (.cons (.var 0) (.cons (.con (.int 3)) .nil))) (.cons (.prim (pBin .Add) (.cons (.con (.int 3)) (.cons (.call g.f__law_throw (.cons (.var 0) (.cons (.con (.int 4)) .nil))) .nil))) .nil))) .nil)))
   .nil) .nil)
   (.cons (.ite (.prim (pCmpT .Eq) (.cons (.call g.f__law_throw (.cons (.var 0) (.cons (.con (.int 3)) .nil))) (.cons (.con (.int 0)) .nil))) (.cons (.drop (.mth isL mApp 3 (.cons (.mk dTup (.cons (.prim (pBin .Add) (.cons (.var 1) (.cons (.con (.int 1)) .nil))) (.cons (.prim (pBin .Mult) (.cons (.call g.f__law_throw (.cons (.var 0) (.cons (.con (.int 2)) .nil))) (.cons (.var 1) .nil))) (.cons (.con (.int 0)) .nil)))) .nil)))
   .nil) .nil)
   (.cons (.ret (.mk dTup (.cons (.prim pTup (.cons (.var 2) .nil)) (.cons (.prim pTup (.cons (.prim (orP pSrt pSrtT) (.cons (.var 3) .nil)) .nil)) .nil))))
   .nil)))))))
def tm_f__law_holed_jobs (g : Fs) : Ss := (.cons (.set 1 (.prim (pBin .Add) (.cons (.con (.int 1)) (.cons (.call g.f__law_throw (.cons (.var 0) (.cons (.con (.int 2)) .nil))) .nil))))
   (.cons (.set 2 (.prim (pBin .Add) (.cons (.mk dLst (.cons (.mk dTup (.cons (.var 1) (.cons (.var 1) .nil))) .nil)) (.cons (.lc gRng1 (.cons (.prim (pBin .Add) (.cons (.con (.int 2)) (.cons (.call g.f__law_throw (.cons (.var 0) (.cons (.con (.int 2)) .nil))) .nil))) .nil) (.nm 3) [3] (.con (.bl true)) (.mk dTup (.cons (.con (.int 0)) (.cons (.prim (pBin .Add) (.cons (.prim (pBin .Add) (.cons (.var 1) (.cons (.con (.int 1)) .nil))) (.cons (.call g.f__law_throw (.cons (.var 0) (.cons (.con (.int 2)) .nil))) .nil))) .nil)))) .nil))))
   (.cons (.ret (.mk dTup (.cons (.prim pTup (.cons (.var 2) .nil)) (.cons (.ifx (.prim (pCmpT .Eq) (.cons (.call g.f__law_throw (.cons (.var 0) (.cons (.con (.int 2)) .nil))) (.cons (.con (.int 0)) .nil))) (.mk dTup (.cons (.mk dTup (.cons (.con (.int 1)) (.cons (.con (.int 2)) (.cons (.call g.f__law_throw (.cons (.var 0) (.cons (.con (.int 2)) .nil))) .nil)))) .nil)) (.mk dTup .nil)) .nil))))
   .nil)))
def tm_f__law_turned (g : Fs) : Ss := (.cons (.unp (.cons (.nm 2) (.cons (.nm 3) .nil)) (.var 1))
   (.cons (.set 4 (.call g.f__law_shuffled (.cons (.var 0) (.cons (.prim pLRg (.cons (.prim pLen (.cons (.var 2) .nil)) .nil)) .nil))))
   (.cons (.set 5 (.lc gSeq (.cons (.var 3) .nil) (.cons (.nm 6) (.cons (.nm 7) (.cons (.nm 8) .nil))) [6, 7, 8] (.con (.bl true)) (.mk dTup (.cons (.rcv isL pIdx (.var 4) (.cons (.var 6) .nil)) (.cons (.rcv isL pIdx (.var 4) (.cons (.var 7) .nil)) (.cons (.var 8) .nil))))))
   (.cons (.ret (.mk dTup (.cons (.prim pTup (.cons (.lc gSeq (.cons (.var 4) .nil) (.nm 9) [9] (.con (.bl true)) (.prim (orP pIx pDIx) (.cons (.var 2) (.cons (.var 9) .nil)))) .nil)) (.cons (.prim pTup (.cons (.prim (orP pSrt pSrtT) (.cons (.var 5) .nil)) .nil)) .nil))))
   .nil))))
def tm_f__law_plan (g : Fs) : Ss := (.cons (.set 3 (.call g.f__law_throw (.cons (.var 0) (.cons (.con (.int 6)) .nil))))
   (.cons (.ite (.prim (pCmpT .Eq) (.cons (.var 3) (.cons (.con (.int 0)) .nil))) (.cons (.ret (.call g.f__law_turned (.cons (.var 0) (.cons (.call g.f__law_holed_jobs (.cons (.var 0) .nil)) .nil))))
   .nil) .nil)
   (.cons (.ite (.prim (pCmpT .Lt) (.cons (.var 3) (.cons (.con (.int 3)) .nil))) (.cons (.ret (.call g.f__law_turned (.cons (.var 0) (.cons (.call g.f__law_pushing_jobs (.cons (.var 0) .nil)) .nil))))
   .nil) .nil)
   (.cons (.set 4 (.call g.f__law_throw (.cons (.var 0) (.cons (.prim (pBin .Add) (.cons (.var 1) (.cons (.con (.int 1)) .nil))) .nil))))
   (.cons (.ret (.mk dTup (.cons (.call g.f__law_drawn_spans (.cons (.var 0) (.cons (.var 4) (.cons (.var 2) .nil)))) (.cons (.call g.f__law_linked (.cons (.var 0) (.cons (.var 4) (.cons (.call g.f__law_pick (.cons (.var 0) (.cons (.mk dLst (.cons (.con (.int 1)) (.cons (.con (.int 2)) (.cons (.con (.int 2)) (.cons (.con (.int 3)) (.cons (.con (.int 4)) (.cons (.con (.int 9)) .nil))))))) .nil))) .nil)))) .nil))))
   .nil)))))
def tm_f__law_object (g : Fs) : Ss := (.cons (.ret (.call (mkF "Jobs" g.c_Jobs___init__) (.cons (.prim (orP pIx pDIx) (.cons (.var 0) (.cons (.con (.int 0)) .nil))) (.cons (.prim (orP pIx pDIx) (.cons (.var 0) (.cons (.con (.int 1)) .nil))) .nil))))
   .nil)
def tm_f__law_bounded (g : Fs) : Ss := (.cons (.set 3 (.mk dLst .nil))
   (.cons (.for gSeq (.cons (.prim (orP pIx pDIx) (.cons (.var 0) (.cons (.con (.int 0)) .nil))) .nil) (.cons (.nm 4) (.cons (.nm 5) .nil)) (.cons (.ite (.prim (pCmpT .Eq) (.cons (.var 1) (.cons (.con (.str "length")) .nil))) (.cons (.drop (.mth isL mApp 3 (.cons (.mk dTup (.cons (.var 4) (.cons (.prim pMin (.cons (.var 5) (.cons (.prim (pBin .Sub) (.cons (.var 2) (.cons (.con (.int 1)) .nil))) .nil))) .nil))) .nil)))
   .nil) (.cons (.ite (.prim (pCmpT .Eq) (.cons (.var 1) (.cons (.con (.str "begin")) .nil))) (.cons (.drop (.mth isL mApp 3 (.cons (.mk dTup (.cons (.prim pMax (.cons (.var 4) (.cons (.var 2) .nil))) (.cons (.var 5) .nil))) .nil)))
   .nil) (.cons (.drop (.mth isL mApp 3 (.cons (.mk dTup (.cons (.var 4) (.cons (.prim pMin (.cons (.prim (pBin .Add) (.cons (.var 5) (.cons (.var 2) .nil))) (.cons (.con (.int 99)) .nil))) .nil))) .nil)))
   .nil))
   .nil))
   .nil))
   (.cons (.ret (.mk dTup (.cons (.prim pTup (.cons (.var 3) .nil)) (.cons (.prim (orP pIx pDIx) (.cons (.var 0) (.cons (.con (.int 1)) .nil))) .nil))))
   .nil)))
def tm_f__law_wide (g : Fs) : Ss := (.cons (.set 2 (.mk dLst .nil))
   (.cons (.for gSeq (.cons (.prim (orP pIx pDIx) (.cons (.var 1) (.cons (.con (.int 0)) .nil))) .nil) (.cons (.nm 3) (.cons (.nm 4) .nil)) (.cons (.set 5 (.mk dLst (.cons (.mk dTup (.cons (.var 3) (.cons (.var 4) .nil))) (.cons (.mk dTup (.cons (.var 3) (.cons (.prim (pBin .Sub) (.cons (.con (.int 99)) (.cons (.var 4) .nil))) .nil))) (.cons (.mk dTup (.cons (.prim (pBin .Sub) (.cons (.con (.int 99)) (.cons (.var 4) .nil))) (.cons (.con (.int 99)) .nil))) (.cons (.mk dTup (.cons (.con (.int 100)) (.cons (.var 4) .nil))) .nil))))))
   (.cons (.drop (.mth isL mApp 2 (.cons (.prim (orP pIx pDIx) (.cons (.var 5) (.cons (.call g.f__law_pick (.cons (.var 0) (.cons (.mk dLst (.cons (.con (.int 0)) (.cons (.con (.int 0)) (.cons (.con (.int 0)) (.cons (.con (.int 0)) (.cons (.con (.int 1)) (.cons (.con (.int 2)) (.cons (.con (.int 3)) .nil)))))))) .nil))) .nil))) .nil)))
   .nil)))
   (.cons (.ret (.mk dTup (.cons (.prim pTup (.cons (.var 2) .nil)) (.cons (.prim (orP pIx pDIx) (.cons (.var 1) (.cons (.con (.int 1)) .nil))) .nil))))
   .nil)))
def tm_f__law_right (g : Fs) : Ss := (.cons (.set 1 (.call g.f__law_wide (.cons (.var 0) (.cons (.call g.f__law_plan (.cons (.var 0) (.cons (.con (.int 6)) (.cons (.con (.int 9)) .nil)))) .nil))))
   (.cons (.set 2 (.call g.f__law_object (.cons (.var 1) .nil)))
   (.cons (.set 3 (.prim (pBin .Add) (.cons (.prim (pBin .Add) (.cons (.mk dLst (.cons (.con (.int 0)) (.cons (.con (.int 1)) (.cons (.con (.int 2)) (.cons (.con (.int 50)) (.cons (.con (.int 99)) (.cons (.con (.int 100)) .nil))))))) (.cons (.lc gSeq (.cons (.prim (orP pIx pDIx) (.cons (.var 1) (.cons (.con (.int 0)) .nil))) .nil) (.nm 4) [4] (.con (.bl true)) (.prim (orP pIx pDIx) (.cons (.var 4) (.cons (.con (.int 0)) .nil)))) .nil))) (.cons (.lc gSeq (.cons (.prim (orP pIx pDIx) (.cons (.var 1) (.cons (.con (.int 0)) .nil))) .nil) (.nm 4) [4] (.con (.bl true)) (.prim (pBin .Add) (.cons (.prim (orP pIx pDIx) (.cons (.var 4) (.cons (.con (.int 1)) .nil))) (.cons (.con (.int 1)) .nil)))) .nil))))
   (.cons (.for gRng1 (.cons (.con (.int 6)) .nil) (.nm 5) (.cons (.set 6 (.call g.f__law_pick (.cons (.var 0) (.cons (.mk dLst (.cons (.con (.str "length")) (.cons (.con (.str "begin")) (.cons (.con (.str "late")) .nil)))) .nil))))
   (.cons (.set 7 (.prim pMax (.cons (.prim pInt (.cons (.prim (pCmpT .Eq) (.cons (.var 6) (.cons (.con (.str "length")) .nil))) .nil)) (.cons (.prim pMin (.cons (.con (.int 100)) (.cons (.call g.f__law_pick (.cons (.var 0) (.cons (.prim (pBin .Add) (.cons (.var 3) (.cons (.mk dLst (.cons (.call g.f__law_throw (.cons (.var 0) (.cons (.con (.int 101)) .nil))) .nil)) .nil))) .nil))) .nil))) .nil))))
   (.cons (.par [8, 9] (.cons (.call g.f__law_bounded (.cons (.var 1) (.cons (.var 6) (.cons (.var 7) .nil)))) (.cons (.call g.f_bounded (.cons (.var 2) (.cons (.var 6) (.cons (.var 7) .nil)))) .nil)))
   (.cons (.ite (.or (.prim (pCmpT .NotEq) (.cons (.prim pRepr (.cons (.mk dLst (.cons (.meth (selP (pr_windows g)) (.var 9) .nil) (.cons (.meth (selP (pr_edges g)) (.var 9) .nil) .nil))) .nil)) (.cons (.prim pRepr (.cons (.mk dLst (.cons (.prim (orP pIx pDIx) (.cons (.var 8) (.cons (.con (.int 0)) .nil))) (.cons (.prim (orP pIx pDIx) (.cons (.var 8) (.cons (.con (.int 1)) .nil))) .nil))) .nil)) .nil))) (.not (.call (eqT (eqs g)) (.cons (.var 9) (.cons (.call g.f__law_object (.cons (.var 8) .nil)) .nil))))) (.cons (.ret (.con (.bl false)))
   .nil) .nil)
   (.cons (.ite (.prim (pCmpT .NotEq) (.cons (.meth (selP (pr_windows g)) (.call g.f_bounded (.cons (.var 9) (.cons (.con (.str "length")) (.cons (.con (.int 5)) .nil)))) .nil) (.cons (.prim (orP pIx pDIx) (.cons (.call g.f__law_bounded (.cons (.var 8) (.cons (.con (.str "length")) (.cons (.con (.int 5)) .nil)))) (.cons (.con (.int 0)) .nil))) .nil))) (.cons (.ret (.con (.bl false)))
   .nil) .nil)
   .nil))))))
   (.cons (.ret (.and (.prim (pCmpT .Eq) (.cons (.meth (selP (pr_windows g)) (.var 2) .nil) (.cons (.prim (orP pIx pDIx) (.cons (.var 1) (.cons (.con (.int 0)) .nil))) .nil))) (.prim (pCmpT .Eq) (.cons (.meth (selP (pr_edges g)) (.var 2) .nil) (.cons (.prim (orP pIx pDIx) (.cons (.var 1) (.cons (.con (.int 1)) .nil))) .nil)))))
   .nil)))))
def tm_f_law (g : Fs) : Ss := (.cons (.for gRng1 (.cons (.prim pMax (.cons (.con (.int 1)) (.cons (.prim pMin (.cons (.con (.int 6)) (.cons (.prim pLen (.cons (.var 0) .nil)) .nil))) .nil))) .nil) (.nm 1) (.cons (.set 2 (.call g.f__law_start (.cons (.var 0) (.cons (.var 1) .nil))))
   (.cons (.for gRng1 (.cons (.con (.int 4)) .nil) (.nm 3) (.cons (.ite (.not (.prim pTru (.cons (.call g.f__law_right (.cons (.var 2) .nil)) .nil))) (.cons (.ret (.con (.bl false)))
   .nil) .nil)
   .nil))
   .nil)))
   (.cons (.set 4 (.call (mkF "Jobs" (dflF g.c_Jobs___init__ 2 [.tup []])) (.cons (.mk dTup (.cons (.mk dTup (.cons (.con (.int 2)) (.cons (.con (.int 5)) .nil))) (.cons (.mk dTup (.cons (.con (.int 100)) (.cons (.con (.int 0)) .nil))) (.cons (.mk dTup (.cons (.con (.int 98)) (.cons (.con (.int 99)) .nil))) .nil)))) .nil)))
   (.cons (.set 5 (.mk dLst (.cons (.meth (selP (pr_windows g)) (.call g.f_bounded (.cons (.var 4) (.cons (.con (.str "length")) (.cons (.con (.int 1)) .nil)))) .nil) (.cons (.meth (selP (pr_windows g)) (.call g.f_bounded (.cons (.var 4) (.cons (.con (.str "begin")) (.cons (.con (.int 100)) .nil)))) .nil) (.cons (.meth (selP (pr_windows g)) (.call g.f_bounded (.cons (.var 4) (.cons (.con (.str "late")) (.cons (.con (.int 100)) .nil)))) .nil) .nil)))))
   (.cons (.set 5 (.prim (pBin .Add) (.cons (.var 5) (.cons (.mk dLst (.cons (.call (eqT (eqs g)) (.cons (.call g.f_bounded (.cons (.var 4) (.cons (.con (.str "late")) (.cons (.con (.int 0)) .nil)))) (.cons (.var 4) .nil))) (.cons (.call (eqT (eqs g)) (.cons (.call g.f_bounded (.cons (.var 4) (.cons (.con (.str "length")) (.cons (.con (.int 100)) .nil)))) (.cons (.var 4) .nil))) .nil))) .nil))))
   (.cons (.set 6 (.mk dLst (.cons (.mk dTup (.cons (.mk dTup (.cons (.con (.int 2)) (.cons (.con (.int 0)) .nil))) (.cons (.mk dTup (.cons (.con (.int 100)) (.cons (.con (.int 0)) .nil))) (.cons (.mk dTup (.cons (.con (.int 98)) (.cons (.con (.int 0)) .nil))) .nil)))) (.cons (.mk dTup (.cons (.mk dTup (.cons (.con (.int 100)) (.cons (.con (.int 5)) .nil))) (.cons (.mk dTup (.cons (.con (.int 100)) (.cons (.con (.int 0)) .nil))) (.cons (.mk dTup (.cons (.con (.int 100)) (.cons (.con (.int 99)) .nil))) .nil)))) (.cons (.mk dTup (.cons (.mk dTup (.cons (.con (.int 2)) (.cons (.con (.int 99)) .nil))) (.cons (.mk dTup (.cons (.con (.int 100)) (.cons (.con (.int 99)) .nil))) (.cons (.mk dTup (.cons (.con (.int 98)) (.cons (.con (.int 99)) .nil))) .nil)))) (.cons (.con (.bl true)) (.cons (.con (.bl true)) .nil)))))))
   (.cons (.ret (.prim (pCmpT .Eq) (.cons (.var 5) (.cons (.var 6) .nil))))
   .nil))))))
def tm_c_Jobs___init__ (g : Fs) : Ss := (.cons (.ite (.or (.not (.prim pTru (.cons (.prim (pIsi "tuple") (.cons (.var 1) .nil)) .nil))) (.not (.prim pTru (.cons (.prim pAll (.cons (.lc gSeq (.cons (.var 1) .nil) (.nm 3) [3] (.con (.bl true)) (.call g.f_is_window (.cons (.var 3) .nil))) .nil)) .nil)))) (.cons .nev
   .nil) .nil)
   (.cons (.ite (.or (.not (.prim pTru (.cons (.prim (pIsi "tuple") (.cons (.var 2) .nil)) .nil))) (.not (.prim pTru (.cons (.prim pAll (.cons (.lc gSeq (.cons (.var 2) .nil) (.nm 4) [4] (.con (.bl true)) (.call g.f_is_edge (.cons (.prim pLen (.cons (.var 1) .nil)) (.cons (.var 4) .nil)))) .nil)) .nil)))) (.cons .nev
   .nil) .nil)
   (.cons (.set 5 (.call g.f_gaps_of (.cons (.var 2) .nil)))
   (.cons (.set 6 (.call g.f_onward_order (.cons (.prim pLen (.cons (.var 1) .nil)) (.cons (.var 5) .nil))))
   (.cons (.ite (.prim (pCmpT .Is) (.cons (.var 6) (.cons (.con .non) .nil))) (.cons .nev
   .nil) .nil)
   (.cons (.ite (.prim (pCmpT .Gt) (.cons (.prim pLen (.cons (.var 1) .nil)) (.cons (.con (.int 40)) .nil))) (.cons .nev
   .nil) .nil)
   (.cons (.fld ["Jobs"] "own_windows" 0 (.var 1))
   (.cons (.fld ["Jobs"] "own_gaps" 0 (.var 5))
   (.cons (.fld ["Jobs"] "own_order" 0 (.var 6))
   (.cons (.fld ["Jobs"] "own_ways" 0 (.call g.f_ways_by (.cons (.prim pLen (.cons (.var 1) .nil)) (.cons (.var 5) (.cons (.var 6) .nil)))))
   .nil))))))))))
def tm_c_Jobs_windows (g : Fs) : Ss := (.cons (.ret (.prim (pFld ["Jobs"] "own_windows") (.cons (.var 0) .nil)))
   .nil)
def tm_c_Jobs_edges (g : Fs) : Ss := (.cons (.ret (.call g.f_moved_edges (.cons (.prim (pFld ["Jobs"] "own_gaps") (.cons (.var 0) .nil)) (.cons (.con (.int 0)) .nil))))
   .nil)
def tm_c_Jobs_with_windows_in (g : Fs) : Ss := (.cons (.ret (.call (mkF "Jobs" g.c_Jobs___init__) (.cons (.prim pTup (.cons (.lc gEnB (.cons (.prim (pFld ["Jobs"] "own_windows") (.cons (.var 0) .nil)) .nil) (.cons (.nm 2) (.cons (.nm 3) .nil)) [2, 3] (.con (.bl true)) (.rcv isDct pDGet (.var 1) (.cons (.var 2) (.cons (.var 3) .nil)))) .nil)) (.cons (.meth (selP (pr_edges g)) (.var 0) .nil) .nil))))
   .nil)
def tm_c_Jobs___eq__ (g : Fs) : Ss := (.cons (.ite (.not (.prim pTru (.cons (.prim (pIsC [("Jobs", true)]) (.cons (.var 1) .nil)) .nil))) (.cons (.ret (.con (.bl false)))
   .nil) .nil)
   (.cons (.ret (.and (.prim (pCmpT .Eq) (.cons (.prim (pFld ["Jobs"] "own_windows") (.cons (.var 0) .nil)) (.cons (.prim (pFld ["Jobs"] "own_windows") (.cons (.var 1) .nil)) .nil))) (.prim (pCmpT .Eq) (.cons (.prim (pFld ["Jobs"] "own_gaps") (.cons (.var 0) .nil)) (.cons (.prim (pFld ["Jobs"] "own_gaps") (.cons (.var 1) .nil)) .nil)))))
   .nil))
def G0 : Fs := ⟨⟨[false], fun _ => .stuck⟩, ⟨[false, false, false], fun _ => .stuck⟩, ⟨[false], fun _ => .stuck⟩, ⟨[false, false], fun _ => .stuck⟩, ⟨[false], fun _ => .stuck⟩, ⟨[false, false], fun _ => .stuck⟩, ⟨[false, false], fun _ => .stuck⟩, ⟨[false, false, false], fun _ => .stuck⟩, ⟨[false], fun _ => .stuck⟩, ⟨[false], fun _ => .stuck⟩, ⟨[false, false], fun _ => .stuck⟩, ⟨[false, false, false], fun _ => .stuck⟩, ⟨[false, false, false], fun _ => .stuck⟩, ⟨[false, false, false], fun _ => .stuck⟩, ⟨[false, false], fun _ => .stuck⟩, ⟨[true, false], fun _ => .stuck⟩, ⟨[true, false], fun _ => .stuck⟩, ⟨[true, false], fun _ => .stuck⟩, ⟨[true, false, false], fun _ => .stuck⟩, ⟨[true, false, false], fun _ => .stuck⟩, ⟨[true], fun _ => .stuck⟩, ⟨[true], fun _ => .stuck⟩, ⟨[true, false], fun _ => .stuck⟩, ⟨[true, false, false], fun _ => .stuck⟩, ⟨[false], fun _ => .stuck⟩, ⟨[false, false, false], fun _ => .stuck⟩, ⟨[true, false], fun _ => .stuck⟩, ⟨[true], fun _ => .stuck⟩, ⟨[false], fun _ => .stuck⟩, ⟨[true, false, false], fun _ => .stuck⟩, ⟨[false], fun _ => .stuck⟩, ⟨[false], fun _ => .stuck⟩, ⟨[false, false], fun _ => .stuck⟩, ⟨[false, false], fun _ => .stuck⟩⟩
def step (g : Fs) : Fs := ⟨⟨[false], runF [false] 0 1000 (tm_f_is_integer g)⟩,
  ⟨[false, false, false], runF [false, false, false] 0 1000 (tm_f_is_between g)⟩,
  ⟨[false], runF [false] 0 1000 (tm_f_is_window g)⟩,
  ⟨[false, false], runF [false, false] 4 1000 (tm_f_is_edge g)⟩,
  ⟨[false], runF [false] 4 1000 (tm_f_gaps_of g)⟩,
  ⟨[false, false], runF [false, false] 3 1000 (tm_f_moved_edges g)⟩,
  ⟨[false, false], runF [false, false] 5 1000 (tm_f_onward_order g)⟩,
  ⟨[false, false, false], runF [false, false, false] 8 1000 (tm_f_ways_by g)⟩,
  ⟨[false], runF [false] 0 1000 (tm_f_require_jobs g)⟩,
  ⟨[false], runF [false] 0 1000 (tm_f_require_word g)⟩,
  ⟨[false, false], runF [false, false] 0 1000 (tm_f_is_number_for g)⟩,
  ⟨[false, false, false], runF [false, false, false] 2 1000 (tm_f_bounded_window g)⟩,
  ⟨[false, false, false], runF [false, false, false] 3 1000 (tm_f_bounded_in g)⟩,
  ⟨[false, false, false], runF [false, false, false] 0 1000 (tm_f_bounded g)⟩,
  ⟨[false, false], runF [false, false] 3 1000 (tm_f__law_start g)⟩,
  ⟨[true, false], runF [true, false] 3 1000 (tm_f__law_throw g)⟩,
  ⟨[true, false], runF [true, false] 0 1000 (tm_f__law_pick g)⟩,
  ⟨[true, false], runF [true, false] 2 1000 (tm_f__law_shuffled g)⟩,
  ⟨[true, false, false], runF [true, false, false] 5 1000 (tm_f__law_linked g)⟩,
  ⟨[true, false, false], runF [true, false, false] 5 1000 (tm_f__law_drawn_spans g)⟩,
  ⟨[true], runF [true] 4 1000 (tm_f__law_pushing_jobs g)⟩,
  ⟨[true], runF [true] 3 1000 (tm_f__law_holed_jobs g)⟩,
  ⟨[true, false], runF [true, false] 8 1000 (tm_f__law_turned g)⟩,
  ⟨[true, false, false], runF [true, false, false] 2 1000 (tm_f__law_plan g)⟩,
  ⟨[false], runF [false] 0 1000 (tm_f__law_object g)⟩,
  ⟨[false, false, false], runF [false, false, false] 3 1000 (tm_f__law_bounded g)⟩,
  ⟨[true, false], runF [true, false] 4 1000 (tm_f__law_wide g)⟩,
  ⟨[true], runF [true] 9 1000 (tm_f__law_right g)⟩,
  ⟨[false], runF [false] 6 1000 (tm_f_law g)⟩,
  ⟨[true, false, false], runF [true, false, false] 4 1000 (tm_c_Jobs___init__ g)⟩,
  ⟨[false], runF [false] 0 1000 (tm_c_Jobs_windows g)⟩,
  ⟨[false], runF [false] 0 1000 (tm_c_Jobs_edges g)⟩,
  ⟨[false, false], runF [false, false] 2 1000 (tm_c_Jobs_with_windows_in g)⟩,
  ⟨[false, false], runF [false, false] 0 1000 (tm_c_Jobs___eq__ g)⟩⟩
def G : Nat → Fs
  | 0 => G0
  | k + 1 => step (G k)
theorem u_f_is_integer (g : Fs) : (step g).f_is_integer = ⟨[false], runF [false] 0 1000 (tm_f_is_integer g)⟩ := rfl
theorem u_f_is_between (g : Fs) : (step g).f_is_between = ⟨[false, false, false], runF [false, false, false] 0 1000 (tm_f_is_between g)⟩ := rfl
theorem u_f_is_window (g : Fs) : (step g).f_is_window = ⟨[false], runF [false] 0 1000 (tm_f_is_window g)⟩ := rfl
theorem u_f_is_edge (g : Fs) : (step g).f_is_edge = ⟨[false, false], runF [false, false] 4 1000 (tm_f_is_edge g)⟩ := rfl
theorem u_f_gaps_of (g : Fs) : (step g).f_gaps_of = ⟨[false], runF [false] 4 1000 (tm_f_gaps_of g)⟩ := rfl
theorem u_f_moved_edges (g : Fs) : (step g).f_moved_edges = ⟨[false, false], runF [false, false] 3 1000 (tm_f_moved_edges g)⟩ := rfl
theorem u_f_onward_order (g : Fs) : (step g).f_onward_order = ⟨[false, false], runF [false, false] 5 1000 (tm_f_onward_order g)⟩ := rfl
theorem u_f_ways_by (g : Fs) : (step g).f_ways_by = ⟨[false, false, false], runF [false, false, false] 8 1000 (tm_f_ways_by g)⟩ := rfl
theorem u_f_require_jobs (g : Fs) : (step g).f_require_jobs = ⟨[false], runF [false] 0 1000 (tm_f_require_jobs g)⟩ := rfl
theorem u_f_require_word (g : Fs) : (step g).f_require_word = ⟨[false], runF [false] 0 1000 (tm_f_require_word g)⟩ := rfl
theorem u_f_is_number_for (g : Fs) : (step g).f_is_number_for = ⟨[false, false], runF [false, false] 0 1000 (tm_f_is_number_for g)⟩ := rfl
theorem u_f_bounded_window (g : Fs) : (step g).f_bounded_window = ⟨[false, false, false], runF [false, false, false] 2 1000 (tm_f_bounded_window g)⟩ := rfl
theorem u_f_bounded_in (g : Fs) : (step g).f_bounded_in = ⟨[false, false, false], runF [false, false, false] 3 1000 (tm_f_bounded_in g)⟩ := rfl
theorem u_f_bounded (g : Fs) : (step g).f_bounded = ⟨[false, false, false], runF [false, false, false] 0 1000 (tm_f_bounded g)⟩ := rfl
theorem u_f__law_start (g : Fs) : (step g).f__law_start = ⟨[false, false], runF [false, false] 3 1000 (tm_f__law_start g)⟩ := rfl
theorem u_f__law_throw (g : Fs) : (step g).f__law_throw = ⟨[true, false], runF [true, false] 3 1000 (tm_f__law_throw g)⟩ := rfl
theorem u_f__law_pick (g : Fs) : (step g).f__law_pick = ⟨[true, false], runF [true, false] 0 1000 (tm_f__law_pick g)⟩ := rfl
theorem u_f__law_shuffled (g : Fs) : (step g).f__law_shuffled = ⟨[true, false], runF [true, false] 2 1000 (tm_f__law_shuffled g)⟩ := rfl
theorem u_f__law_linked (g : Fs) : (step g).f__law_linked = ⟨[true, false, false], runF [true, false, false] 5 1000 (tm_f__law_linked g)⟩ := rfl
theorem u_f__law_drawn_spans (g : Fs) : (step g).f__law_drawn_spans = ⟨[true, false, false], runF [true, false, false] 5 1000 (tm_f__law_drawn_spans g)⟩ := rfl
theorem u_f__law_pushing_jobs (g : Fs) : (step g).f__law_pushing_jobs = ⟨[true], runF [true] 4 1000 (tm_f__law_pushing_jobs g)⟩ := rfl
theorem u_f__law_holed_jobs (g : Fs) : (step g).f__law_holed_jobs = ⟨[true], runF [true] 3 1000 (tm_f__law_holed_jobs g)⟩ := rfl
theorem u_f__law_turned (g : Fs) : (step g).f__law_turned = ⟨[true, false], runF [true, false] 8 1000 (tm_f__law_turned g)⟩ := rfl
theorem u_f__law_plan (g : Fs) : (step g).f__law_plan = ⟨[true, false, false], runF [true, false, false] 2 1000 (tm_f__law_plan g)⟩ := rfl
theorem u_f__law_object (g : Fs) : (step g).f__law_object = ⟨[false], runF [false] 0 1000 (tm_f__law_object g)⟩ := rfl
theorem u_f__law_bounded (g : Fs) : (step g).f__law_bounded = ⟨[false, false, false], runF [false, false, false] 3 1000 (tm_f__law_bounded g)⟩ := rfl
theorem u_f__law_wide (g : Fs) : (step g).f__law_wide = ⟨[true, false], runF [true, false] 4 1000 (tm_f__law_wide g)⟩ := rfl
theorem u_f__law_right (g : Fs) : (step g).f__law_right = ⟨[true], runF [true] 9 1000 (tm_f__law_right g)⟩ := rfl
theorem u_f_law (g : Fs) : (step g).f_law = ⟨[false], runF [false] 6 1000 (tm_f_law g)⟩ := rfl
theorem u_c_Jobs___init__ (g : Fs) : (step g).c_Jobs___init__ = ⟨[true, false, false], runF [true, false, false] 4 1000 (tm_c_Jobs___init__ g)⟩ := rfl
theorem u_c_Jobs_windows (g : Fs) : (step g).c_Jobs_windows = ⟨[false], runF [false] 0 1000 (tm_c_Jobs_windows g)⟩ := rfl
theorem u_c_Jobs_edges (g : Fs) : (step g).c_Jobs_edges = ⟨[false], runF [false] 0 1000 (tm_c_Jobs_edges g)⟩ := rfl
theorem u_c_Jobs_with_windows_in (g : Fs) : (step g).c_Jobs_with_windows_in = ⟨[false, false], runF [false, false] 2 1000 (tm_c_Jobs_with_windows_in g)⟩ := rfl
theorem u_c_Jobs___eq__ (g : Fs) : (step g).c_Jobs___eq__ = ⟨[false, false], runF [false, false] 0 1000 (tm_c_Jobs___eq__ g)⟩ := rfl
theorem r_f_is_integer (g : Fs) (ds : List D) : (step g).f_is_integer.F ds = runF [false] 0 1000 (tm_f_is_integer g) ds := by rw [u_f_is_integer]
theorem r_f_is_between (g : Fs) (ds : List D) : (step g).f_is_between.F ds = runF [false, false, false] 0 1000 (tm_f_is_between g) ds := by rw [u_f_is_between]
theorem r_f_is_window (g : Fs) (ds : List D) : (step g).f_is_window.F ds = runF [false] 0 1000 (tm_f_is_window g) ds := by rw [u_f_is_window]
theorem r_f_is_edge (g : Fs) (ds : List D) : (step g).f_is_edge.F ds = runF [false, false] 4 1000 (tm_f_is_edge g) ds := by rw [u_f_is_edge]
theorem r_f_gaps_of (g : Fs) (ds : List D) : (step g).f_gaps_of.F ds = runF [false] 4 1000 (tm_f_gaps_of g) ds := by rw [u_f_gaps_of]
theorem r_f_moved_edges (g : Fs) (ds : List D) : (step g).f_moved_edges.F ds = runF [false, false] 3 1000 (tm_f_moved_edges g) ds := by rw [u_f_moved_edges]
theorem r_f_onward_order (g : Fs) (ds : List D) : (step g).f_onward_order.F ds = runF [false, false] 5 1000 (tm_f_onward_order g) ds := by rw [u_f_onward_order]
theorem r_f_ways_by (g : Fs) (ds : List D) : (step g).f_ways_by.F ds = runF [false, false, false] 8 1000 (tm_f_ways_by g) ds := by rw [u_f_ways_by]
theorem r_f_require_jobs (g : Fs) (ds : List D) : (step g).f_require_jobs.F ds = runF [false] 0 1000 (tm_f_require_jobs g) ds := by rw [u_f_require_jobs]
theorem r_f_require_word (g : Fs) (ds : List D) : (step g).f_require_word.F ds = runF [false] 0 1000 (tm_f_require_word g) ds := by rw [u_f_require_word]
theorem r_f_is_number_for (g : Fs) (ds : List D) : (step g).f_is_number_for.F ds = runF [false, false] 0 1000 (tm_f_is_number_for g) ds := by rw [u_f_is_number_for]
theorem r_f_bounded_window (g : Fs) (ds : List D) : (step g).f_bounded_window.F ds = runF [false, false, false] 2 1000 (tm_f_bounded_window g) ds := by rw [u_f_bounded_window]
theorem r_f_bounded_in (g : Fs) (ds : List D) : (step g).f_bounded_in.F ds = runF [false, false, false] 3 1000 (tm_f_bounded_in g) ds := by rw [u_f_bounded_in]
theorem r_f_bounded (g : Fs) (ds : List D) : (step g).f_bounded.F ds = runF [false, false, false] 0 1000 (tm_f_bounded g) ds := by rw [u_f_bounded]
theorem r_f__law_start (g : Fs) (ds : List D) : (step g).f__law_start.F ds = runF [false, false] 3 1000 (tm_f__law_start g) ds := by rw [u_f__law_start]
theorem r_f__law_throw (g : Fs) (ds : List D) : (step g).f__law_throw.F ds = runF [true, false] 3 1000 (tm_f__law_throw g) ds := by rw [u_f__law_throw]
theorem r_f__law_pick (g : Fs) (ds : List D) : (step g).f__law_pick.F ds = runF [true, false] 0 1000 (tm_f__law_pick g) ds := by rw [u_f__law_pick]
theorem r_f__law_shuffled (g : Fs) (ds : List D) : (step g).f__law_shuffled.F ds = runF [true, false] 2 1000 (tm_f__law_shuffled g) ds := by rw [u_f__law_shuffled]
theorem r_f__law_linked (g : Fs) (ds : List D) : (step g).f__law_linked.F ds = runF [true, false, false] 5 1000 (tm_f__law_linked g) ds := by rw [u_f__law_linked]
theorem r_f__law_drawn_spans (g : Fs) (ds : List D) : (step g).f__law_drawn_spans.F ds = runF [true, false, false] 5 1000 (tm_f__law_drawn_spans g) ds := by rw [u_f__law_drawn_spans]
theorem r_f__law_pushing_jobs (g : Fs) (ds : List D) : (step g).f__law_pushing_jobs.F ds = runF [true] 4 1000 (tm_f__law_pushing_jobs g) ds := by rw [u_f__law_pushing_jobs]
theorem r_f__law_holed_jobs (g : Fs) (ds : List D) : (step g).f__law_holed_jobs.F ds = runF [true] 3 1000 (tm_f__law_holed_jobs g) ds := by rw [u_f__law_holed_jobs]
theorem r_f__law_turned (g : Fs) (ds : List D) : (step g).f__law_turned.F ds = runF [true, false] 8 1000 (tm_f__law_turned g) ds := by rw [u_f__law_turned]
theorem r_f__law_plan (g : Fs) (ds : List D) : (step g).f__law_plan.F ds = runF [true, false, false] 2 1000 (tm_f__law_plan g) ds := by rw [u_f__law_plan]
theorem r_f__law_object (g : Fs) (ds : List D) : (step g).f__law_object.F ds = runF [false] 0 1000 (tm_f__law_object g) ds := by rw [u_f__law_object]
theorem r_f__law_bounded (g : Fs) (ds : List D) : (step g).f__law_bounded.F ds = runF [false, false, false] 3 1000 (tm_f__law_bounded g) ds := by rw [u_f__law_bounded]
theorem r_f__law_wide (g : Fs) (ds : List D) : (step g).f__law_wide.F ds = runF [true, false] 4 1000 (tm_f__law_wide g) ds := by rw [u_f__law_wide]
theorem r_f__law_right (g : Fs) (ds : List D) : (step g).f__law_right.F ds = runF [true] 9 1000 (tm_f__law_right g) ds := by rw [u_f__law_right]
theorem r_f_law (g : Fs) (ds : List D) : (step g).f_law.F ds = runF [false] 6 1000 (tm_f_law g) ds := by rw [u_f_law]
theorem r_c_Jobs___init__ (g : Fs) (ds : List D) : (step g).c_Jobs___init__.F ds = runF [true, false, false] 4 1000 (tm_c_Jobs___init__ g) ds := by rw [u_c_Jobs___init__]
theorem r_c_Jobs_windows (g : Fs) (ds : List D) : (step g).c_Jobs_windows.F ds = runF [false] 0 1000 (tm_c_Jobs_windows g) ds := by rw [u_c_Jobs_windows]
theorem r_c_Jobs_edges (g : Fs) (ds : List D) : (step g).c_Jobs_edges.F ds = runF [false] 0 1000 (tm_c_Jobs_edges g) ds := by rw [u_c_Jobs_edges]
theorem r_c_Jobs_with_windows_in (g : Fs) (ds : List D) : (step g).c_Jobs_with_windows_in.F ds = runF [false, false] 2 1000 (tm_c_Jobs_with_windows_in g) ds := by rw [u_c_Jobs_with_windows_in]
theorem r_c_Jobs___eq__ (g : Fs) (ds : List D) : (step g).c_Jobs___eq__.F ds = runF [false, false] 0 1000 (tm_c_Jobs___eq__ g) ds := by rw [u_c_Jobs___eq__]
def fns (g : Fs) : List ((Str × Nat) × Fn) := [(("is_integer", 1), g.f_is_integer), (("is_between", 3), g.f_is_between), (("is_window", 1), g.f_is_window), (("is_edge", 2), g.f_is_edge), (("gaps_of", 1), g.f_gaps_of), (("moved_edges", 2), g.f_moved_edges), (("onward_order", 2), g.f_onward_order), (("ways_by", 3), g.f_ways_by), (("require_jobs", 1), g.f_require_jobs), (("require_word", 1), g.f_require_word), (("is_number_for", 2), g.f_is_number_for), (("bounded_window", 3), g.f_bounded_window), (("bounded_in", 3), g.f_bounded_in), (("bounded", 3), g.f_bounded), (("_law_start", 2), g.f__law_start), (("_law_throw", 2), g.f__law_throw), (("_law_pick", 2), g.f__law_pick), (("_law_shuffled", 2), g.f__law_shuffled), (("_law_linked", 3), g.f__law_linked), (("_law_drawn_spans", 3), g.f__law_drawn_spans), (("_law_pushing_jobs", 1), g.f__law_pushing_jobs), (("_law_holed_jobs", 1), g.f__law_holed_jobs), (("_law_turned", 2), g.f__law_turned), (("_law_plan", 3), g.f__law_plan), (("_law_object", 1), g.f__law_object), (("_law_bounded", 3), g.f__law_bounded), (("_law_wide", 2), g.f__law_wide), (("_law_right", 1), g.f__law_right), (("law", 1), g.f_law), (("Jobs", 2), (mkF "Jobs" g.c_Jobs___init__)), (("Jobs", 1), (mkF "Jobs" (dflF g.c_Jobs___init__ 2 [.tup []])))]
def con : List (Str × D) := [("MAX_JOBS", (.int 40)), ("MAX_SLOT", (.int 99)), ("MOST", (.int 100))]
def cl (g : Fs) : Cl := ⟨[("own_windows", ["Jobs"]), ("own_gaps", ["Jobs"]), ("own_order", ["Jobs"]), ("own_ways", ["Jobs"])], [("windows", pr_windows g), ("edges", pr_edges g)], [(("with_windows_in", 1), me_with_windows_in_1 g)], [("Jobs", [("Jobs", true)])], eqs g, [("LEAST", w_LEAST)], [(271, 93), (284, 29), (284, 73)]⟩
def N_f_is_integer : List Str := ["value"]
theorem sc_f_is_integer : FnScope N_f_is_integer ["value"] (defScope Hd.s_f_is_integer) := ⟨by kernel_rfl, by kernel_rfl, by kernel_rfl, by decide +kernel, by kernel_rfl, by decide +kernel, by decide +kernel⟩
theorem cp_f_is_integer (g : Fs) : cSs (cS (ctT N_f_is_integer (fns g) con (cl g)) (svOf (defScope Hd.s_f_is_integer)) 60) (defBody Hd.s_f_is_integer) = some (tm_f_is_integer g) := by kernel_rfl
def N_f_is_between : List Str := ["value", "low", "high"]
theorem sc_f_is_between : FnScope N_f_is_between ["value", "low", "high"] (defScope Hd.s_f_is_between) := ⟨by kernel_rfl, by kernel_rfl, by kernel_rfl, by decide +kernel, by kernel_rfl, by decide +kernel, by decide +kernel⟩
theorem cp_f_is_between (g : Fs) : cSs (cS (ctT N_f_is_between (fns g) con (cl g)) (svOf (defScope Hd.s_f_is_between)) 60) (defBody Hd.s_f_is_between) = some (tm_f_is_between g) := by kernel_rfl
def N_f_is_window : List Str := ["value"]
theorem sc_f_is_window : FnScope N_f_is_window ["value"] (defScope Hd.s_f_is_window) := ⟨by kernel_rfl, by kernel_rfl, by kernel_rfl, by decide +kernel, by kernel_rfl, by decide +kernel, by decide +kernel⟩
theorem cp_f_is_window (g : Fs) : cSs (cS (ctT N_f_is_window (fns g) con (cl g)) (svOf (defScope Hd.s_f_is_window)) 60) (defBody Hd.s_f_is_window) = some (tm_f_is_window g) := by kernel_rfl
def N_f_is_edge : List Str := ["many", "value", "part", "job", "other", "gap"]
theorem sc_f_is_edge : FnScope N_f_is_edge ["many", "value"] (defScope Hd.s_f_is_edge) := ⟨by kernel_rfl, by kernel_rfl, by kernel_rfl, by decide +kernel, by kernel_rfl, by decide +kernel, by decide +kernel⟩
theorem cp_f_is_edge (g : Fs) : cSs (cS (ctT N_f_is_edge (fns g) con (cl g)) (svOf (defScope Hd.s_f_is_edge)) 60) (defBody Hd.s_f_is_edge) = some (tm_f_is_edge g) := by kernel_rfl
def N_f_gaps_of : List Str := ["edges", "found", "job", "other", "gap"]
theorem sc_f_gaps_of : FnScope N_f_gaps_of ["edges"] (defScope Hd.s_f_gaps_of) := ⟨by kernel_rfl, by kernel_rfl, by kernel_rfl, by decide +kernel, by kernel_rfl, by decide +kernel, by decide +kernel⟩
theorem cp_f_gaps_of (g : Fs) : cSs (cS (ctT N_f_gaps_of (fns g) con (cl g)) (svOf (defScope Hd.s_f_gaps_of)) 60) (defBody Hd.s_f_gaps_of) = some (tm_f_gaps_of g) := by kernel_rfl
def N_f_moved_edges : List Str := ["gaps", "many", "job", "other", "gap"]
theorem sc_f_moved_edges : FnScope N_f_moved_edges ["gaps", "many"] (defScope Hd.s_f_moved_edges) := ⟨by kernel_rfl, by kernel_rfl, by kernel_rfl, by decide +kernel, by kernel_rfl, by decide +kernel, by decide +kernel⟩
theorem cp_f_moved_edges (g : Fs) : cSs (cS (ctT N_f_moved_edges (fns g) con (cl g)) (svOf (defScope Hd.s_f_moved_edges)) 60) (defBody Hd.s_f_moved_edges) = some (tm_f_moved_edges g) := by kernel_rfl
def N_f_onward_order : List Str := ["many", "gaps", "found", "left", "first", "job", "other"]
theorem sc_f_onward_order : FnScope N_f_onward_order ["many", "gaps"] (defScope Hd.s_f_onward_order) := ⟨by kernel_rfl, by kernel_rfl, by kernel_rfl, by decide +kernel, by kernel_rfl, by decide +kernel, by decide +kernel⟩
theorem cp_f_onward_order (g : Fs) : cSs (cS (ctT N_f_onward_order (fns g) con (cl g)) (svOf (defScope Hd.s_f_onward_order)) 60) (defBody Hd.s_f_onward_order) = some (tm_f_onward_order g) := by kernel_rfl
def N_f_ways_by : List Str := ["many", "gaps", "order", "found", "job", "here", "one", "other", "gap", "last", "long"]
theorem sc_f_ways_by : FnScope N_f_ways_by ["many", "gaps", "order"] (defScope Hd.s_f_ways_by) := ⟨by kernel_rfl, by kernel_rfl, by kernel_rfl, by decide +kernel, by kernel_rfl, by decide +kernel, by decide +kernel⟩
theorem cp_f_ways_by (g : Fs) : cSs (cS (ctT N_f_ways_by (fns g) con (cl g)) (svOf (defScope Hd.s_f_ways_by)) 60) (defBody Hd.s_f_ways_by) = some (tm_f_ways_by g) := by kernel_rfl
def N_f_require_jobs : List Str := ["jobs"]
theorem sc_f_require_jobs : FnScope N_f_require_jobs ["jobs"] (defScope Hd.s_f_require_jobs) := ⟨by kernel_rfl, by kernel_rfl, by kernel_rfl, by decide +kernel, by kernel_rfl, by decide +kernel, by decide +kernel⟩
theorem cp_f_require_jobs (g : Fs) : cSs (cS (ctT N_f_require_jobs (fns g) con (cl g)) (svOf (defScope Hd.s_f_require_jobs)) 60) (defBody Hd.s_f_require_jobs) = some (tm_f_require_jobs g) := by kernel_rfl
def N_f_require_word : List Str := ["word"]
theorem sc_f_require_word : FnScope N_f_require_word ["word"] (defScope Hd.s_f_require_word) := ⟨by kernel_rfl, by kernel_rfl, by kernel_rfl, by decide +kernel, by kernel_rfl, by decide +kernel, by decide +kernel⟩
theorem cp_f_require_word (g : Fs) : cSs (cS (ctT N_f_require_word (fns g) con (cl g)) (svOf (defScope Hd.s_f_require_word)) 60) (defBody Hd.s_f_require_word) = some (tm_f_require_word g) := by kernel_rfl
def N_f_is_number_for : List Str := ["word", "value"]
theorem sc_f_is_number_for : FnScope N_f_is_number_for ["word", "value"] (defScope Hd.s_f_is_number_for) := ⟨by kernel_rfl, by kernel_rfl, by kernel_rfl, by decide +kernel, by kernel_rfl, by decide +kernel, by decide +kernel⟩
theorem cp_f_is_number_for (g : Fs) : cSs (cS (ctT N_f_is_number_for (fns g) con (cl g)) (svOf (defScope Hd.s_f_is_number_for)) 60) (defBody Hd.s_f_is_number_for) = some (tm_f_is_number_for g) := by kernel_rfl
def N_f_bounded_window : List Str := ["window", "word", "number", "first", "last"]
theorem sc_f_bounded_window : FnScope N_f_bounded_window ["window", "word", "number"] (defScope Hd.s_f_bounded_window) := ⟨by kernel_rfl, by kernel_rfl, by kernel_rfl, by decide +kernel, by kernel_rfl, by decide +kernel, by decide +kernel⟩
theorem cp_f_bounded_window (g : Fs) : cSs (cS (ctT N_f_bounded_window (fns g) con (cl g)) (svOf (defScope Hd.s_f_bounded_window)) 60) (defBody Hd.s_f_bounded_window) = some (tm_f_bounded_window g) := by kernel_rfl
def N_f_bounded_in : List Str := ["jobs", "word", "number", "windows", "job", "window"]
theorem sc_f_bounded_in : FnScope N_f_bounded_in ["jobs", "word", "number"] (defScope Hd.s_f_bounded_in) := ⟨by kernel_rfl, by kernel_rfl, by kernel_rfl, by decide +kernel, by kernel_rfl, by decide +kernel, by decide +kernel⟩
theorem cp_f_bounded_in (g : Fs) : cSs (cS (ctT N_f_bounded_in (fns g) con (cl g)) (svOf (defScope Hd.s_f_bounded_in)) 60) (defBody Hd.s_f_bounded_in) = some (tm_f_bounded_in g) := by kernel_rfl
def N_f_bounded : List Str := ["jobs", "word", "number"]
theorem sc_f_bounded : FnScope N_f_bounded ["jobs", "word", "number"] (defScope Hd.s_f_bounded) := ⟨by kernel_rfl, by kernel_rfl, by kernel_rfl, by decide +kernel, by kernel_rfl, by decide +kernel, by decide +kernel⟩
theorem cp_f_bounded (g : Fs) : cSs (cS (ctT N_f_bounded (fns g) con (cl g)) (svOf (defScope Hd.s_f_bounded)) 60) (defBody Hd.s_f_bounded) = some (tm_f_bounded g) := by kernel_rfl
def N_f__law_start : List Str := ["_law_script", "_law_at", "_law_number", "_law_great", "_law_mixed"]
theorem sc_f__law_start : FnScope N_f__law_start ["_law_script", "_law_at"] (defScope Hd.s_f__law_start) := ⟨by kernel_rfl, by kernel_rfl, by kernel_rfl, by decide +kernel, by kernel_rfl, by decide +kernel, by decide +kernel⟩
theorem cp_f__law_start (g : Fs) : cSs (cS (ctT N_f__law_start (fns g) con (cl g)) (svOf (defScope Hd.s_f__law_start)) 60) (defBody Hd.s_f__law_start) = some (tm_f__law_start g) := by kernel_rfl
def N_f__law_throw : List Str := ["_law_bag", "_law_total", "_law_found", "_law_one", "_law_two"]
theorem sc_f__law_throw : FnScope N_f__law_throw ["_law_bag", "_law_total"] (defScope Hd.s_f__law_throw) := ⟨by kernel_rfl, by kernel_rfl, by kernel_rfl, by decide +kernel, by kernel_rfl, by decide +kernel, by decide +kernel⟩
theorem cp_f__law_throw (g : Fs) : cSs (cS (ctT N_f__law_throw (fns g) con (cl g)) (svOf (defScope Hd.s_f__law_throw)) 60) (defBody Hd.s_f__law_throw) = some (tm_f__law_throw g) := by kernel_rfl
def N_f__law_pick : List Str := ["_law_bag", "_law_items"]
theorem sc_f__law_pick : FnScope N_f__law_pick ["_law_bag", "_law_items"] (defScope Hd.s_f__law_pick) := ⟨by kernel_rfl, by kernel_rfl, by kernel_rfl, by decide +kernel, by kernel_rfl, by decide +kernel, by decide +kernel⟩
theorem cp_f__law_pick (g : Fs) : cSs (cS (ctT N_f__law_pick (fns g) con (cl g)) (svOf (defScope Hd.s_f__law_pick)) 60) (defBody Hd.s_f__law_pick) = some (tm_f__law_pick g) := by kernel_rfl
def N_f__law_shuffled : List Str := ["_law_bag", "_law_items", "_law_left", "_law_turn"]
theorem sc_f__law_shuffled : FnScope N_f__law_shuffled ["_law_bag", "_law_items"] (defScope Hd.s_f__law_shuffled) := ⟨by kernel_rfl, by kernel_rfl, by kernel_rfl, by decide +kernel, by kernel_rfl, by decide +kernel, by decide +kernel⟩
theorem cp_f__law_shuffled (g : Fs) : cSs (cS (ctT N_f__law_shuffled (fns g) con (cl g)) (svOf (defScope Hd.s_f__law_shuffled)) 60) (defBody Hd.s_f__law_shuffled) = some (tm_f__law_shuffled g) := by kernel_rfl
def N_f__law_linked : List Str := ["_law_bag", "_law_size", "_law_often", "_law_order", "_law_found", "_law_at", "_law_job", "_law_other"]
theorem sc_f__law_linked : FnScope N_f__law_linked ["_law_bag", "_law_size", "_law_often"] (defScope Hd.s_f__law_linked) := ⟨by kernel_rfl, by kernel_rfl, by kernel_rfl, by decide +kernel, by kernel_rfl, by decide +kernel, by decide +kernel⟩
theorem cp_f__law_linked (g : Fs) : cSs (cS (ctT N_f__law_linked (fns g) con (cl g)) (svOf (defScope Hd.s_f__law_linked)) 60) (defBody Hd.s_f__law_linked) = some (tm_f__law_linked g) := by kernel_rfl
def N_f__law_drawn_spans : List Str := ["_law_bag", "_law_size", "_law_room", "_law_found", "_law_turn", "_law_low", "_law_long", "_law_high"]
theorem sc_f__law_drawn_spans : FnScope N_f__law_drawn_spans ["_law_bag", "_law_size", "_law_room"] (defScope Hd.s_f__law_drawn_spans) := ⟨by kernel_rfl, by kernel_rfl, by kernel_rfl, by decide +kernel, by kernel_rfl, by decide +kernel, by decide +kernel⟩
theorem cp_f__law_drawn_spans (g : Fs) : cSs (cS (ctT N_f__law_drawn_spans (fns g) con (cl g)) (svOf (defScope Hd.s_f__law_drawn_spans)) 60) (defBody Hd.s_f__law_drawn_spans) = some (tm_f__law_drawn_spans g) := by kernel_rfl
def N_f__law_pushing_jobs : List Str := ["_law_bag", "_law_users", "_law_spans", "_law_links", "_law_user"]
theorem sc_f__law_pushing_jobs : FnScope N_f__law_pushing_jobs ["_law_bag"] (defScope Hd.s_f__law_pushing_jobs) := ⟨by kernel_rfl, by kernel_rfl, by kernel_rfl, by decide +kernel, by kernel_rfl, by decide +kernel, by decide +kernel⟩
theorem cp_f__law_pushing_jobs (g : Fs) : cSs (cS (ctT N_f__law_pushing_jobs (fns g) con (cl g)) (svOf (defScope Hd.s_f__law_pushing_jobs)) 60) (defBody Hd.s_f__law_pushing_jobs) = some (tm_f__law_pushing_jobs g) := by kernel_rfl
def N_f__law_holed_jobs : List Str := ["_law_bag", "_law_slot", "_law_spans", "_law_turn"]
theorem sc_f__law_holed_jobs : FnScope N_f__law_holed_jobs ["_law_bag"] (defScope Hd.s_f__law_holed_jobs) := ⟨by kernel_rfl, by kernel_rfl, by kernel_rfl, by decide +kernel, by kernel_rfl, by decide +kernel, by decide +kernel⟩
theorem cp_f__law_holed_jobs (g : Fs) : cSs (cS (ctT N_f__law_holed_jobs (fns g) con (cl g)) (svOf (defScope Hd.s_f__law_holed_jobs)) 60) (defBody Hd.s_f__law_holed_jobs) = some (tm_f__law_holed_jobs g) := by kernel_rfl
def N_f__law_turned : List Str := ["_law_bag", "_law_model", "_law_spans", "_law_links", "_law_order", "_law_found", "_law_one", "_law_other", "_law_gap", "_law_job"]
theorem sc_f__law_turned : FnScope N_f__law_turned ["_law_bag", "_law_model"] (defScope Hd.s_f__law_turned) := ⟨by kernel_rfl, by kernel_rfl, by kernel_rfl, by decide +kernel, by kernel_rfl, by decide +kernel, by decide +kernel⟩
theorem cp_f__law_turned (g : Fs) : cSs (cS (ctT N_f__law_turned (fns g) con (cl g)) (svOf (defScope Hd.s_f__law_turned)) 60) (defBody Hd.s_f__law_turned) = some (tm_f__law_turned g) := by kernel_rfl
def N_f__law_plan : List Str := ["_law_bag", "_law_most", "_law_room", "_law_kind", "_law_size"]
theorem sc_f__law_plan : FnScope N_f__law_plan ["_law_bag", "_law_most", "_law_room"] (defScope Hd.s_f__law_plan) := ⟨by kernel_rfl, by kernel_rfl, by kernel_rfl, by decide +kernel, by kernel_rfl, by decide +kernel, by decide +kernel⟩
theorem cp_f__law_plan (g : Fs) : cSs (cS (ctT N_f__law_plan (fns g) con (cl g)) (svOf (defScope Hd.s_f__law_plan)) 60) (defBody Hd.s_f__law_plan) = some (tm_f__law_plan g) := by kernel_rfl
def N_f__law_object : List Str := ["_law_model"]
theorem sc_f__law_object : FnScope N_f__law_object ["_law_model"] (defScope Hd.s_f__law_object) := ⟨by kernel_rfl, by kernel_rfl, by kernel_rfl, by decide +kernel, by kernel_rfl, by decide +kernel, by decide +kernel⟩
theorem cp_f__law_object (g : Fs) : cSs (cS (ctT N_f__law_object (fns g) con (cl g)) (svOf (defScope Hd.s_f__law_object)) 60) (defBody Hd.s_f__law_object) = some (tm_f__law_object g) := by kernel_rfl
def N_f__law_bounded : List Str := ["_law_model", "_law_word", "_law_number", "_law_spans", "_law_low", "_law_high"]
theorem sc_f__law_bounded : FnScope N_f__law_bounded ["_law_model", "_law_word", "_law_number"] (defScope Hd.s_f__law_bounded) := ⟨by kernel_rfl, by kernel_rfl, by kernel_rfl, by decide +kernel, by kernel_rfl, by decide +kernel, by decide +kernel⟩
theorem cp_f__law_bounded (g : Fs) : cSs (cS (ctT N_f__law_bounded (fns g) con (cl g)) (svOf (defScope Hd.s_f__law_bounded)) 60) (defBody Hd.s_f__law_bounded) = some (tm_f__law_bounded g) := by kernel_rfl
def N_f__law_wide : List Str := ["_law_bag", "_law_model", "_law_spans", "_law_low", "_law_high", "_law_some"]
theorem sc_f__law_wide : FnScope N_f__law_wide ["_law_bag", "_law_model"] (defScope Hd.s_f__law_wide) := ⟨by kernel_rfl, by kernel_rfl, by kernel_rfl, by decide +kernel, by kernel_rfl, by decide +kernel, by decide +kernel⟩
theorem cp_f__law_wide (g : Fs) : cSs (cS (ctT N_f__law_wide (fns g) con (cl g)) (svOf (defScope Hd.s_f__law_wide)) 60) (defBody Hd.s_f__law_wide) = some (tm_f__law_wide g) := by kernel_rfl
def N_f__law_right : List Str := ["_law_bag", "_law_model", "_law_jobs", "_law_ends", "_law_span", "_law_turn", "_law_word", "_law_number", "_law_due", "_law_told"]
theorem sc_f__law_right : FnScope N_f__law_right ["_law_bag"] (defScope Hd.s_f__law_right) := ⟨by kernel_rfl, by kernel_rfl, by kernel_rfl, by decide +kernel, by kernel_rfl, by decide +kernel, by decide +kernel⟩
theorem cp_f__law_right (g : Fs) : cSs (cS (ctT N_f__law_right (fns g) con (cl g)) (svOf (defScope Hd.s_f__law_right)) 60) (defBody Hd.s_f__law_right) = some (tm_f__law_right g) := by kernel_rfl
def N_f_law : List Str := ["_law_script", "_law_at", "_law_bag", "_law_turn", "_law_some", "_law_told", "_law_due"]
theorem sc_f_law : FnScope N_f_law ["_law_script"] (defScope Hd.s_f_law) := ⟨by kernel_rfl, by kernel_rfl, by kernel_rfl, by decide +kernel, by kernel_rfl, by decide +kernel, by decide +kernel⟩
theorem cp_f_law (g : Fs) : cSs (cS (ctT N_f_law (fns g) con (cl g)) (svOf (defScope Hd.s_f_law)) 60) (defBody Hd.s_f_law) = some (tm_f_law g) := by kernel_rfl
def N_c_Jobs___init__ : List Str := ["self", "windows", "edges", "window", "edge", "gaps", "order"]
theorem sc_c_Jobs___init__ : FnScope N_c_Jobs___init__ ["self", "windows", "edges"] (defScope Hd.s_c_Jobs___init__) := ⟨by kernel_rfl, by kernel_rfl, by kernel_rfl, by decide +kernel, by kernel_rfl, by decide +kernel, by decide +kernel⟩
theorem cp_c_Jobs___init__ (g : Fs) : cSs (cS (ctT N_c_Jobs___init__ (fns g) con (cl g)) (svOf (defScope Hd.s_c_Jobs___init__)) 60) (defBody Hd.s_c_Jobs___init__) = some (tm_c_Jobs___init__ g) := by kernel_rfl
def N_c_Jobs_windows : List Str := ["self"]
theorem sc_c_Jobs_windows : FnScope N_c_Jobs_windows ["self"] (defScope Hd.s_c_Jobs_windows) := ⟨by kernel_rfl, by kernel_rfl, by kernel_rfl, by decide +kernel, by kernel_rfl, by decide +kernel, by decide +kernel⟩
theorem cp_c_Jobs_windows (g : Fs) : cSs (cS (ctT N_c_Jobs_windows (fns g) con (cl g)) (svOf (defScope Hd.s_c_Jobs_windows)) 60) (defBody Hd.s_c_Jobs_windows) = some (tm_c_Jobs_windows g) := by kernel_rfl
def N_c_Jobs_edges : List Str := ["self"]
theorem sc_c_Jobs_edges : FnScope N_c_Jobs_edges ["self"] (defScope Hd.s_c_Jobs_edges) := ⟨by kernel_rfl, by kernel_rfl, by kernel_rfl, by decide +kernel, by kernel_rfl, by decide +kernel, by decide +kernel⟩
theorem cp_c_Jobs_edges (g : Fs) : cSs (cS (ctT N_c_Jobs_edges (fns g) con (cl g)) (svOf (defScope Hd.s_c_Jobs_edges)) 60) (defBody Hd.s_c_Jobs_edges) = some (tm_c_Jobs_edges g) := by kernel_rfl
def N_c_Jobs_with_windows_in : List Str := ["self", "windows", "job", "window"]
theorem sc_c_Jobs_with_windows_in : FnScope N_c_Jobs_with_windows_in ["self", "windows"] (defScope Hd.s_c_Jobs_with_windows_in) := ⟨by kernel_rfl, by kernel_rfl, by kernel_rfl, by decide +kernel, by kernel_rfl, by decide +kernel, by decide +kernel⟩
theorem cp_c_Jobs_with_windows_in (g : Fs) : cSs (cS (ctT N_c_Jobs_with_windows_in (fns g) con (cl g)) (svOf (defScope Hd.s_c_Jobs_with_windows_in)) 60) (defBody Hd.s_c_Jobs_with_windows_in) = some (tm_c_Jobs_with_windows_in g) := by kernel_rfl
def N_c_Jobs___eq__ : List Str := ["self", "other"]
theorem sc_c_Jobs___eq__ : FnScope N_c_Jobs___eq__ ["self", "other"] (defScope Hd.s_c_Jobs___eq__) := ⟨by kernel_rfl, by kernel_rfl, by kernel_rfl, by decide +kernel, by kernel_rfl, by decide +kernel, by decide +kernel⟩
theorem cp_c_Jobs___eq__ (g : Fs) : cSs (cS (ctT N_c_Jobs___eq__ (fns g) con (cl g)) (svOf (defScope Hd.s_c_Jobs___eq__)) 60) (defBody Hd.s_c_Jobs___eq__) = some (tm_c_Jobs___eq__ g) := by kernel_rfl
end Lw

end
-- En_k54
section
namespace Lw
open PySem L2 MP
section
variable {P : Program} {w : World} {K : PySem.W.Frag} {h : Heap} {mg : Str → Option Value} {base : Heap}
theorem con_ok (X : K.In h) (Gn : h.Ns mainGlobals mg) (c : SaysM Hd.fs Hd.fn Hd.ts w K) : ∀ p ∈ con, Pc K mg p := by
  simp only [con, List.forall_mem_cons]
  exact ⟨pc_int X Gn (c.fact 53 rfl), pc_int X Gn (c.fact 54 rfl), pc_int X Gn (c.fact 55 rfl), nofun⟩
theorem bn_ok (X : K.In h) (Gn : h.Ns mainGlobals mg) (c : SaysM Hd.fs Hd.fn Hd.ts w K) : ∀ x ∈ bnam2, mg x = none := by
  simp only [bnam2, bnames, List.forall_mem_cons]
  exact ⟨He.free_ok X Gn (c.fact 34 rfl), He.free_ok X Gn (c.fact 35 rfl), He.free_ok X Gn (c.fact 36 rfl), He.free_ok X Gn (c.fact 37 rfl), He.free_ok X Gn (c.fact 38 rfl), He.free_ok X Gn (c.fact 39 rfl), He.free_ok X Gn (c.fact 40 rfl), He.free_ok X Gn (c.fact 41 rfl), He.free_ok X Gn (c.fact 42 rfl), He.free_ok X Gn (c.fact 43 rfl), He.free_ok X Gn (c.fact 44 rfl), He.free_ok X Gn (c.fact 45 rfl), He.free_ok X Gn (c.fact 46 rfl), He.free_ok X Gn (c.fact 47 rfl), He.free_ok X Gn (c.fact 48 rfl), He.free_ok X Gn (c.fact 49 rfl), He.free_ok X Gn (c.fact 50 rfl), He.free_ok X Gn (c.fact 51 rfl), He.free_ok X Gn (c.fact 52 rfl), nofun⟩
theorem all_ok (X : K.In h) (Gn : h.Ns mainGlobals mg) (c : SaysM Hd.fs Hd.fn Hd.ts w K) : ∀ k, ClOk P w K mg base (2 * k) (cl (G k)) ∧ ∀ p ∈ fns (G k), Fo P w K mg base (2 * k + 1) p := by
  have hb := bn_ok X Gn c
  have hc := con_ok X Gn c
  obtain ⟨fd_f_is_integer, F_f_is_integer⟩ := c.def_ 0 (d := Hd.d_f_is_integer) rfl
  have b_f_is_integer : Binds K fd_f_is_integer ["value"] [] := F_f_is_integer.bindsN fun _ _ _ _ _ _ us hl => match us, hl with | [_], _ => rfl
  obtain ⟨fd_f_is_between, F_f_is_between⟩ := c.def_ 1 (d := Hd.d_f_is_between) rfl
  have b_f_is_between : Binds K fd_f_is_between ["value", "low", "high"] [] := F_f_is_between.bindsN fun _ _ _ _ _ _ us hl => match us, hl with | [_, _, _], _ => rfl
  obtain ⟨fd_f_is_window, F_f_is_window⟩ := c.def_ 2 (d := Hd.d_f_is_window) rfl
  have b_f_is_window : Binds K fd_f_is_window ["value"] [] := F_f_is_window.bindsN fun _ _ _ _ _ _ us hl => match us, hl with | [_], _ => rfl
  obtain ⟨fd_f_is_edge, F_f_is_edge⟩ := c.def_ 3 (d := Hd.d_f_is_edge) rfl
  have b_f_is_edge : Binds K fd_f_is_edge ["many", "value"] [] := F_f_is_edge.bindsN fun _ _ _ _ _ _ us hl => match us, hl with | [_, _], _ => rfl
  obtain ⟨fd_f_gaps_of, F_f_gaps_of⟩ := c.def_ 4 (d := Hd.d_f_gaps_of) rfl
  have b_f_gaps_of : Binds K fd_f_gaps_of ["edges"] [] := F_f_gaps_of.bindsN fun _ _ _ _ _ _ us hl => match us, hl with | [_], _ => rfl
  obtain ⟨fd_f_moved_edges, F_f_moved_edges⟩ := c.def_ 5 (d := Hd.d_f_moved_edges) rfl
  have b_f_moved_edges : Binds K fd_f_moved_edges ["gaps", "many"] [] := F_f_moved_edges.bindsN fun _ _ _ _ _ _ us hl => match us, hl with | [_, _], _ => rfl
  obtain ⟨fd_f_onward_order, F_f_onward_order⟩ := c.def_ 6 (d := Hd.d_f_onward_order) rfl
  have b_f_onward_order : Binds K fd_f_onward_order ["many", "gaps"] [] := F_f_onward_order.bindsN fun _ _ _ _ _ _ us hl => match us, hl with | [_, _], _ => rfl
  obtain ⟨fd_f_ways_by, F_f_ways_by⟩ := c.def_ 7 (d := Hd.d_f_ways_by) rfl
  have b_f_ways_by : Binds K fd_f_ways_by ["many", "gaps", "order"] [] := F_f_ways_by.bindsN fun _ _ _ _ _ _ us hl => match us, hl with | [_, _, _], _ => rfl
  obtain ⟨fd_f_require_jobs, F_f_require_jobs⟩ := c.def_ 8 (d := Hd.d_f_require_jobs) rfl
  have b_f_require_jobs : Binds K fd_f_require_jobs ["jobs"] [] := F_f_require_jobs.bindsN fun _ _ _ _ _ _ us hl => match us, hl with | [_], _ => rfl
  obtain ⟨fd_f_require_word, F_f_require_word⟩ := c.def_ 9 (d := Hd.d_f_require_word) rfl
  have b_f_require_word : Binds K fd_f_require_word ["word"] [] := F_f_require_word.bindsN fun _ _ _ _ _ _ us hl => match us, hl with | [_], _ => rfl
  obtain ⟨fd_f_is_number_for, F_f_is_number_for⟩ := c.def_ 10 (d := Hd.d_f_is_number_for) rfl
  have b_f_is_number_for : Binds K fd_f_is_number_for ["word", "value"] [] := F_f_is_number_for.bindsN fun _ _ _ _ _ _ us hl => match us, hl with | [_, _], _ => rfl
  obtain ⟨fd_f_bounded_window, F_f_bounded_window⟩ := c.def_ 11 (d := Hd.d_f_bounded_window) rfl
  have b_f_bounded_window : Binds K fd_f_bounded_window ["window", "word", "number"] [] := F_f_bounded_window.bindsN fun _ _ _ _ _ _ us hl => match us, hl with | [_, _, _], _ => rfl
  obtain ⟨fd_f_bounded_in, F_f_bounded_in⟩ := c.def_ 12 (d := Hd.d_f_bounded_in) rfl
  have b_f_bounded_in : Binds K fd_f_bounded_in ["jobs", "word", "number"] [] := F_f_bounded_in.bindsN fun _ _ _ _ _ _ us hl => match us, hl with | [_, _, _], _ => rfl
  obtain ⟨fd_f_bounded, F_f_bounded⟩ := c.def_ 13 (d := Hd.d_f_bounded) rfl
  have b_f_bounded : Binds K fd_f_bounded ["jobs", "word", "number"] [] := F_f_bounded.bindsN fun _ _ _ _ _ _ us hl => match us, hl with | [_, _, _], _ => rfl
  obtain ⟨fd_f__law_start, F_f__law_start⟩ := c.def_ 14 (d := Hd.d_f__law_start) rfl
  have b_f__law_start : Binds K fd_f__law_start ["_law_script", "_law_at"] [] := F_f__law_start.bindsN fun _ _ _ _ _ _ us hl => match us, hl with | [_, _], _ => rfl
  obtain ⟨fd_f__law_throw, F_f__law_throw⟩ := c.def_ 15 (d := Hd.d_f__law_throw) rfl
  have b_f__law_throw : Binds K fd_f__law_throw ["_law_bag", "_law_total"] [] := F_f__law_throw.bindsN fun _ _ _ _ _ _ us hl => match us, hl with | [_, _], _ => rfl
  obtain ⟨fd_f__law_pick, F_f__law_pick⟩ := c.def_ 16 (d := Hd.d_f__law_pick) rfl
  have b_f__law_pick : Binds K fd_f__law_pick ["_law_bag", "_law_items"] [] := F_f__law_pick.bindsN fun _ _ _ _ _ _ us hl => match us, hl with | [_, _], _ => rfl
  obtain ⟨fd_f__law_shuffled, F_f__law_shuffled⟩ := c.def_ 17 (d := Hd.d_f__law_shuffled) rfl
  have b_f__law_shuffled : Binds K fd_f__law_shuffled ["_law_bag", "_law_items"] [] := F_f__law_shuffled.bindsN fun _ _ _ _ _ _ us hl => match us, hl with | [_, _], _ => rfl
  obtain ⟨fd_f__law_linked, F_f__law_linked⟩ := c.def_ 18 (d := Hd.d_f__law_linked) rfl
  have b_f__law_linked : Binds K fd_f__law_linked ["_law_bag", "_law_size", "_law_often"] [] := F_f__law_linked.bindsN fun _ _ _ _ _ _ us hl => match us, hl with | [_, _, _], _ => rfl
  obtain ⟨fd_f__law_drawn_spans, F_f__law_drawn_spans⟩ := c.def_ 19 (d := Hd.d_f__law_drawn_spans) rfl
  have b_f__law_drawn_spans : Binds K fd_f__law_drawn_spans ["_law_bag", "_law_size", "_law_room"] [] := F_f__law_drawn_spans.bindsN fun _ _ _ _ _ _ us hl => match us, hl with | [_, _, _], _ => rfl
  obtain ⟨fd_f__law_pushing_jobs, F_f__law_pushing_jobs⟩ := c.def_ 20 (d := Hd.d_f__law_pushing_jobs) rfl
  have b_f__law_pushing_jobs : Binds K fd_f__law_pushing_jobs ["_law_bag"] [] := F_f__law_pushing_jobs.bindsN fun _ _ _ _ _ _ us hl => match us, hl with | [_], _ => rfl
  obtain ⟨fd_f__law_holed_jobs, F_f__law_holed_jobs⟩ := c.def_ 21 (d := Hd.d_f__law_holed_jobs) rfl
  have b_f__law_holed_jobs : Binds K fd_f__law_holed_jobs ["_law_bag"] [] := F_f__law_holed_jobs.bindsN fun _ _ _ _ _ _ us hl => match us, hl with | [_], _ => rfl
  obtain ⟨fd_f__law_turned, F_f__law_turned⟩ := c.def_ 22 (d := Hd.d_f__law_turned) rfl
  have b_f__law_turned : Binds K fd_f__law_turned ["_law_bag", "_law_model"] [] := F_f__law_turned.bindsN fun _ _ _ _ _ _ us hl => match us, hl with | [_, _], _ => rfl
  obtain ⟨fd_f__law_plan, F_f__law_plan⟩ := c.def_ 23 (d := Hd.d_f__law_plan) rfl
  have b_f__law_plan : Binds K fd_f__law_plan ["_law_bag", "_law_most", "_law_room"] [] := F_f__law_plan.bindsN fun _ _ _ _ _ _ us hl => match us, hl with | [_, _, _], _ => rfl
  obtain ⟨fd_f__law_object, F_f__law_object⟩ := c.def_ 24 (d := Hd.d_f__law_object) rfl
  have b_f__law_object : Binds K fd_f__law_object ["_law_model"] [] := F_f__law_object.bindsN fun _ _ _ _ _ _ us hl => match us, hl with | [_], _ => rfl
  obtain ⟨fd_f__law_bounded, F_f__law_bounded⟩ := c.def_ 25 (d := Hd.d_f__law_bounded) rfl
  have b_f__law_bounded : Binds K fd_f__law_bounded ["_law_model", "_law_word", "_law_number"] [] := F_f__law_bounded.bindsN fun _ _ _ _ _ _ us hl => match us, hl with | [_, _, _], _ => rfl
  obtain ⟨fd_f__law_wide, F_f__law_wide⟩ := c.def_ 26 (d := Hd.d_f__law_wide) rfl
  have b_f__law_wide : Binds K fd_f__law_wide ["_law_bag", "_law_model"] [] := F_f__law_wide.bindsN fun _ _ _ _ _ _ us hl => match us, hl with | [_, _], _ => rfl
  obtain ⟨fd_f__law_right, F_f__law_right⟩ := c.def_ 27 (d := Hd.d_f__law_right) rfl
  have b_f__law_right : Binds K fd_f__law_right ["_law_bag"] [] := F_f__law_right.bindsN fun _ _ _ _ _ _ us hl => match us, hl with | [_], _ => rfl
  obtain ⟨fd_f_law, F_f_law⟩ := c.def_ 28 (d := Hd.d_f_law) rfl
  have b_f_law : Binds K fd_f_law ["_law_script"] [] := F_f_law.bindsN fun _ _ _ _ _ _ us hl => match us, hl with | [_], _ => rfl
  obtain ⟨fd_c_Jobs___init__, F_c_Jobs___init__⟩ := c.def_ 29 (d := Hd.d_c_Jobs___init__) rfl
  obtain ⟨ds0_c_Jobs___init__, dv0_c_Jobs___init__, b0_c_Jobs___init__⟩ := F_c_Jobs___init__.binds1 (ps := ["self", "windows", "edges"]) 3 1 (by simp [Hd.d_c_Jobs___init__, DefM.dvs]) rfl fun _ _ _ _ _ _ _ us its h1 h2 => match us, its, h1, h2 with | [_, _, _], [_], _, _ => ⟨_, rfl, rfl⟩
  obtain ⟨ds1_c_Jobs___init__, dv1_c_Jobs___init__, b1_c_Jobs___init__⟩ := F_c_Jobs___init__.binds1 (ps := ["self", "windows", "edges"]) 2 0 (by simp [Hd.d_c_Jobs___init__, DefM.dvs]) rfl fun _ _ _ _ _ _ _ us its h1 h2 => match us, its, h1, h2 with | [_, _], [_], _, _ => ⟨_, rfl, rfl⟩
  have b_c_Jobs___init__ : Binds K fd_c_Jobs___init__ ["self", "windows", "edges"] [] := by cases dv0_c_Jobs___init__; exact b0_c_Jobs___init__
  obtain ⟨fd_c_Jobs_windows, F_c_Jobs_windows⟩ := c.def_ 30 (d := Hd.d_c_Jobs_windows) rfl
  have b_c_Jobs_windows : Binds K fd_c_Jobs_windows ["self"] [] := F_c_Jobs_windows.bindsN fun _ _ _ _ _ _ us hl => match us, hl with | [_], _ => rfl
  obtain ⟨fd_c_Jobs_edges, F_c_Jobs_edges⟩ := c.def_ 31 (d := Hd.d_c_Jobs_edges) rfl
  have b_c_Jobs_edges : Binds K fd_c_Jobs_edges ["self"] [] := F_c_Jobs_edges.bindsN fun _ _ _ _ _ _ us hl => match us, hl with | [_], _ => rfl
  obtain ⟨fd_c_Jobs_with_windows_in, F_c_Jobs_with_windows_in⟩ := c.def_ 32 (d := Hd.d_c_Jobs_with_windows_in) rfl
  have b_c_Jobs_with_windows_in : Binds K fd_c_Jobs_with_windows_in ["self", "windows"] [] := F_c_Jobs_with_windows_in.bindsN fun _ _ _ _ _ _ us hl => match us, hl with | [_, _], _ => rfl
  obtain ⟨fd_c_Jobs___eq__, F_c_Jobs___eq__⟩ := c.def_ 33 (d := Hd.d_c_Jobs___eq__) rfl
  have b_c_Jobs___eq__ : Binds K fd_c_Jobs___eq__ ["self", "other"] [] := F_c_Jobs___eq__.bindsN fun _ _ _ _ _ _ us hl => match us, hl with | [_, _], _ => rfl
  have cls_Jobs : Cls K (He.ga K "Jobs") := He.cls_ok (c.fact 57 (f := .fa (.cls "Jobs")) rfl)
  have glo_Jobs : mg "Jobs" = some (.ref (He.ga K "Jobs")) := He.glo_ok X Gn (c.fact 56 (f := .fa (.glo "Jobs")) rfl)
  have build : ∀ (L : Nat) (g : Fs), FnG P w K mg base (L2.CX P w) L (gAd "is_integer" K) fd_f_is_integer ["value"] (spF K g.f_is_integer) → FnG P w K mg base (L2.CX P w) L (gAd "is_between" K) fd_f_is_between ["value", "low", "high"] (spF K g.f_is_between) → FnG P w K mg base (L2.CX P w) L (gAd "is_window" K) fd_f_is_window ["value"] (spF K g.f_is_window) → FnG P w K mg base (L2.CX P w) L (gAd "is_edge" K) fd_f_is_edge ["many", "value"] (spF K g.f_is_edge) → FnG P w K mg base (L2.CX P w) L (gAd "gaps_of" K) fd_f_gaps_of ["edges"] (spF K g.f_gaps_of) → FnG P w K mg base (L2.CX P w) L (gAd "moved_edges" K) fd_f_moved_edges ["gaps", "many"] (spF K g.f_moved_edges) → FnG P w K mg base (L2.CX P w) L (gAd "onward_order" K) fd_f_onward_order ["many", "gaps"] (spF K g.f_onward_order) → FnG P w K mg base (L2.CX P w) L (gAd "ways_by" K) fd_f_ways_by ["many", "gaps", "order"] (spF K g.f_ways_by) → FnG P w K mg base (L2.CX P w) L (gAd "require_jobs" K) fd_f_require_jobs ["jobs"] (spF K g.f_require_jobs) → FnG P w K mg base (L2.CX P w) L (gAd "require_word" K) fd_f_require_word ["word"] (spF K g.f_require_word) → FnG P w K mg base (L2.CX P w) L (gAd "is_number_for" K) fd_f_is_number_for ["word", "value"] (spF K g.f_is_number_for) → FnG P w K mg base (L2.CX P w) L (gAd "bounded_window" K) fd_f_bounded_window ["window", "word", "number"] (spF K g.f_bounded_window) → FnG P w K mg base (L2.CX P w) L (gAd "bounded_in" K) fd_f_bounded_in ["jobs", "word", "number"] (spF K g.f_bounded_in) → FnG P w K mg base (L2.CX P w) L (gAd "bounded" K) fd_f_bounded ["jobs", "word", "number"] (spF K g.f_bounded) → FnG P w K mg base (L2.CX P w) L (gAd "_law_start" K) fd_f__law_start ["_law_script", "_law_at"] (spF K g.f__law_start) → FnG P w K mg base (L2.CX P w) L (gAd "_law_throw" K) fd_f__law_throw ["_law_bag", "_law_total"] (spF K g.f__law_throw) → FnG P w K mg base (L2.CX P w) L (gAd "_law_pick" K) fd_f__law_pick ["_law_bag", "_law_items"] (spF K g.f__law_pick) → FnG P w K mg base (L2.CX P w) L (gAd "_law_shuffled" K) fd_f__law_shuffled ["_law_bag", "_law_items"] (spF K g.f__law_shuffled) → FnG P w K mg base (L2.CX P w) L (gAd "_law_linked" K) fd_f__law_linked ["_law_bag", "_law_size", "_law_often"] (spF K g.f__law_linked) → FnG P w K mg base (L2.CX P w) L (gAd "_law_drawn_spans" K) fd_f__law_drawn_spans ["_law_bag", "_law_size", "_law_room"] (spF K g.f__law_drawn_spans) → FnG P w K mg base (L2.CX P w) L (gAd "_law_pushing_jobs" K) fd_f__law_pushing_jobs ["_law_bag"] (spF K g.f__law_pushing_jobs) → FnG P w K mg base (L2.CX P w) L (gAd "_law_holed_jobs" K) fd_f__law_holed_jobs ["_law_bag"] (spF K g.f__law_holed_jobs) → FnG P w K mg base (L2.CX P w) L (gAd "_law_turned" K) fd_f__law_turned ["_law_bag", "_law_model"] (spF K g.f__law_turned) → FnG P w K mg base (L2.CX P w) L (gAd "_law_plan" K) fd_f__law_plan ["_law_bag", "_law_most", "_law_room"] (spF K g.f__law_plan) → FnG P w K mg base (L2.CX P w) L (gAd "_law_object" K) fd_f__law_object ["_law_model"] (spF K g.f__law_object) → FnG P w K mg base (L2.CX P w) L (gAd "_law_bounded" K) fd_f__law_bounded ["_law_model", "_law_word", "_law_number"] (spF K g.f__law_bounded) → FnG P w K mg base (L2.CX P w) L (gAd "_law_wide" K) fd_f__law_wide ["_law_bag", "_law_model"] (spF K g.f__law_wide) → FnG P w K mg base (L2.CX P w) L (gAd "_law_right" K) fd_f__law_right ["_law_bag"] (spF K g.f__law_right) → FnG P w K mg base (L2.CX P w) L (gAd "law" K) fd_f_law ["_law_script"] (spF K g.f_law) → FnG P w K mg base (L2.CX P w) L (mAd "Jobs" "__init__" K) fd_c_Jobs___init__ ["self", "windows", "edges"] (spF K g.c_Jobs___init__) → FnG P w K mg base (L2.CX P w) L (pAd "Jobs" "windows" K) fd_c_Jobs_windows ["self"] (spF K g.c_Jobs_windows) → FnG P w K mg base (L2.CX P w) L (pAd "Jobs" "edges" K) fd_c_Jobs_edges ["self"] (spF K g.c_Jobs_edges) → FnG P w K mg base (L2.CX P w) L (mAd "Jobs" "with_windows_in" K) fd_c_Jobs_with_windows_in ["self", "windows"] (spF K g.c_Jobs_with_windows_in) → FnG P w K mg base (L2.CX P w) L (mAd "Jobs" "__eq__" K) fd_c_Jobs___eq__ ["self", "other"] (spF K g.c_Jobs___eq__) → ClOk P w K mg base L (cl g) ∧ ∀ p ∈ fns g, Fo P w K mg base (L + 1) p := by
    intro L g H_f_is_integer H_f_is_between H_f_is_window H_f_is_edge H_f_gaps_of H_f_moved_edges H_f_onward_order H_f_ways_by H_f_require_jobs H_f_require_word H_f_is_number_for H_f_bounded_window H_f_bounded_in H_f_bounded H_f__law_start H_f__law_throw H_f__law_pick H_f__law_shuffled H_f__law_linked H_f__law_drawn_spans H_f__law_pushing_jobs H_f__law_holed_jobs H_f__law_turned H_f__law_plan H_f__law_object H_f__law_bounded H_f__law_wide H_f__law_right H_f_law H_c_Jobs___init__ H_c_Jobs_windows H_c_Jobs_edges H_c_Jobs_with_windows_in H_c_Jobs___eq__
    refine ⟨⟨?_, ?_, ?_, ?_, ?_, ?_⟩, ?_⟩
    · simp only [cl, List.forall_mem_cons]
      exact ⟨⟨⟨cls_Jobs, He.noat_ok (c.fact 61 (f := .fa (.noat "Jobs" "own_windows")) rfl)⟩, nofun⟩, ⟨⟨cls_Jobs, He.noat_ok (c.fact 62 (f := .fa (.noat "Jobs" "own_gaps")) rfl)⟩, nofun⟩, ⟨⟨cls_Jobs, He.noat_ok (c.fact 63 (f := .fa (.noat "Jobs" "own_order")) rfl)⟩, nofun⟩, ⟨⟨cls_Jobs, He.noat_ok (c.fact 64 (f := .fa (.noat "Jobs" "own_ways")) rfl)⟩, nofun⟩, nofun⟩
    · simp only [cl, pr_windows, pr_edges, List.forall_mem_cons]
      exact ⟨⟨⟨cls_Jobs, mAd "Jobs" "windows" K, pAd "Jobs" "windows" K, fd_c_Jobs_windows, ["self"], prop_of (c.fact 30 (f := .prop "Jobs" "windows") rfl), b_c_Jobs_windows, H_c_Jobs_windows⟩, nofun⟩, ⟨⟨cls_Jobs, mAd "Jobs" "edges" K, pAd "Jobs" "edges" K, fd_c_Jobs_edges, ["self"], prop_of (c.fact 31 (f := .prop "Jobs" "edges") rfl), b_c_Jobs_edges, H_c_Jobs_edges⟩, nofun⟩, nofun⟩
    · simp only [cl, me_with_windows_in_1, List.forall_mem_cons]
      exact ⟨⟨⟨cls_Jobs, mAd "Jobs" "with_windows_in" K, He.meth_ok (c.fact 32 (f := .fa (.meth "Jobs" "with_windows_in")) rfl), (calb_all H_c_Jobs_with_windows_in b_c_Jobs_with_windows_in).up⟩, nofun⟩, nofun⟩
    · simp only [cl, List.forall_mem_cons]
      exact ⟨⟨glo_Jobs, c.fact 58 (f := .isn "Jobs") rfl, by simp only [List.forall_mem_cons]; exact ⟨⟨cls_Jobs, c.fact 60 (f := .isi "Jobs" "Jobs" true) rfl⟩, nofun⟩⟩, nofun⟩
    · simp only [cl, eqs, List.forall_mem_cons]
      have me_Jobs := He.meth_ok (c.fact 33 (f := .fa (.meth "Jobs" "__eq__")) rfl)
      have mf_Jobs := c.fact 59 (f := .eqs "Jobs") rfl
      simp only [Fb.ok, Bool.and_eq_true, decide_eq_true_eq] at mf_Jobs
      exact ⟨⟨mAd "Jobs" "__eq__" K, me_Jobs.at_, me_Jobs.fn, mf_Jobs.1, mf_Jobs.2, calb_all H_c_Jobs___eq__ b_c_Jobs___eq__⟩, nofun⟩
    · simp only [cl, List.forall_mem_cons]
      exact ⟨⟨He.glo_ok X Gn (c.fact 66 (f := .fa (.glo "LEAST")) rfl), c.fact 67 (f := .wd "LEAST" w_LEAST) rfl, c.tab 0 (t := (gAd "LEAST", ["length", "begin", "late"])) rfl⟩, nofun⟩
    · simp only [fns, List.forall_mem_cons]
      exact ⟨⟨gAd "is_integer" K, He.glo_ok X Gn (c.fact 0 (f := .fa (.glo "is_integer")) rfl), F_f_is_integer.kp, (calb_all H_f_is_integer b_f_is_integer).up⟩,
        ⟨gAd "is_between" K, He.glo_ok X Gn (c.fact 1 (f := .fa (.glo "is_between")) rfl), F_f_is_between.kp, (calb_all H_f_is_between b_f_is_between).up⟩,
        ⟨gAd "is_window" K, He.glo_ok X Gn (c.fact 2 (f := .fa (.glo "is_window")) rfl), F_f_is_window.kp, (calb_all H_f_is_window b_f_is_window).up⟩,
        ⟨gAd "is_edge" K, He.glo_ok X Gn (c.fact 3 (f := .fa (.glo "is_edge")) rfl), F_f_is_edge.kp, (calb_all H_f_is_edge b_f_is_edge).up⟩,
        ⟨gAd "gaps_of" K, He.glo_ok X Gn (c.fact 4 (f := .fa (.glo "gaps_of")) rfl), F_f_gaps_of.kp, (calb_all H_f_gaps_of b_f_gaps_of).up⟩,
        ⟨gAd "moved_edges" K, He.glo_ok X Gn (c.fact 5 (f := .fa (.glo "moved_edges")) rfl), F_f_moved_edges.kp, (calb_all H_f_moved_edges b_f_moved_edges).up⟩,
        ⟨gAd "onward_order" K, He.glo_ok X Gn (c.fact 6 (f := .fa (.glo "onward_order")) rfl), F_f_onward_order.kp, (calb_all H_f_onward_order b_f_onward_order).up⟩,
        ⟨gAd "ways_by" K, He.glo_ok X Gn (c.fact 7 (f := .fa (.glo "ways_by")) rfl), F_f_ways_by.kp, (calb_all H_f_ways_by b_f_ways_by).up⟩,
        ⟨gAd "require_jobs" K, He.glo_ok X Gn (c.fact 8 (f := .fa (.glo "require_jobs")) rfl), F_f_require_jobs.kp, (calb_all H_f_require_jobs b_f_require_jobs).up⟩,
        ⟨gAd "require_word" K, He.glo_ok X Gn (c.fact 9 (f := .fa (.glo "require_word")) rfl), F_f_require_word.kp, (calb_all H_f_require_word b_f_require_word).up⟩,
        ⟨gAd "is_number_for" K, He.glo_ok X Gn (c.fact 10 (f := .fa (.glo "is_number_for")) rfl), F_f_is_number_for.kp, (calb_all H_f_is_number_for b_f_is_number_for).up⟩,
        ⟨gAd "bounded_window" K, He.glo_ok X Gn (c.fact 11 (f := .fa (.glo "bounded_window")) rfl), F_f_bounded_window.kp, (calb_all H_f_bounded_window b_f_bounded_window).up⟩,
        ⟨gAd "bounded_in" K, He.glo_ok X Gn (c.fact 12 (f := .fa (.glo "bounded_in")) rfl), F_f_bounded_in.kp, (calb_all H_f_bounded_in b_f_bounded_in).up⟩,
        ⟨gAd "bounded" K, He.glo_ok X Gn (c.fact 13 (f := .fa (.glo "bounded")) rfl), F_f_bounded.kp, (calb_all H_f_bounded b_f_bounded).up⟩,
        ⟨gAd "_law_start" K, He.glo_ok X Gn (c.fact 14 (f := .fa (.glo "_law_start")) rfl), F_f__law_start.kp, (calb_all H_f__law_start b_f__law_start).up⟩,
        ⟨gAd "_law_throw" K, He.glo_ok X Gn (c.fact 15 (f := .fa (.glo "_law_throw")) rfl), F_f__law_throw.kp, (calb_all H_f__law_throw b_f__law_throw).up⟩,
        ⟨gAd "_law_pick" K, He.glo_ok X Gn (c.fact 16 (f := .fa (.glo "_law_pick")) rfl), F_f__law_pick.kp, (calb_all H_f__law_pick b_f__law_pick).up⟩,
        ⟨gAd "_law_shuffled" K, He.glo_ok X Gn (c.fact 17 (f := .fa (.glo "_law_shuffled")) rfl), F_f__law_shuffled.kp, (calb_all H_f__law_shuffled b_f__law_shuffled).up⟩,
        ⟨gAd "_law_linked" K, He.glo_ok X Gn (c.fact 18 (f := .fa (.glo "_law_linked")) rfl), F_f__law_linked.kp, (calb_all H_f__law_linked b_f__law_linked).up⟩,
        ⟨gAd "_law_drawn_spans" K, He.glo_ok X Gn (c.fact 19 (f := .fa (.glo "_law_drawn_spans")) rfl), F_f__law_drawn_spans.kp, (calb_all H_f__law_drawn_spans b_f__law_drawn_spans).up⟩,
        ⟨gAd "_law_pushing_jobs" K, He.glo_ok X Gn (c.fact 20 (f := .fa (.glo "_law_pushing_jobs")) rfl), F_f__law_pushing_jobs.kp, (calb_all H_f__law_pushing_jobs b_f__law_pushing_jobs).up⟩,
        ⟨gAd "_law_holed_jobs" K, He.glo_ok X Gn (c.fact 21 (f := .fa (.glo "_law_holed_jobs")) rfl), F_f__law_holed_jobs.kp, (calb_all H_f__law_holed_jobs b_f__law_holed_jobs).up⟩,
        ⟨gAd "_law_turned" K, He.glo_ok X Gn (c.fact 22 (f := .fa (.glo "_law_turned")) rfl), F_f__law_turned.kp, (calb_all H_f__law_turned b_f__law_turned).up⟩,
        ⟨gAd "_law_plan" K, He.glo_ok X Gn (c.fact 23 (f := .fa (.glo "_law_plan")) rfl), F_f__law_plan.kp, (calb_all H_f__law_plan b_f__law_plan).up⟩,
        ⟨gAd "_law_object" K, He.glo_ok X Gn (c.fact 24 (f := .fa (.glo "_law_object")) rfl), F_f__law_object.kp, (calb_all H_f__law_object b_f__law_object).up⟩,
        ⟨gAd "_law_bounded" K, He.glo_ok X Gn (c.fact 25 (f := .fa (.glo "_law_bounded")) rfl), F_f__law_bounded.kp, (calb_all H_f__law_bounded b_f__law_bounded).up⟩,
        ⟨gAd "_law_wide" K, He.glo_ok X Gn (c.fact 26 (f := .fa (.glo "_law_wide")) rfl), F_f__law_wide.kp, (calb_all H_f__law_wide b_f__law_wide).up⟩,
        ⟨gAd "_law_right" K, He.glo_ok X Gn (c.fact 27 (f := .fa (.glo "_law_right")) rfl), F_f__law_right.kp, (calb_all H_f__law_right b_f__law_right).up⟩,
        ⟨gAd "law" K, He.glo_ok X Gn (c.fact 28 (f := .fa (.glo "law")) rfl), F_f_law.kp, (calb_all H_f_law b_f_law).up⟩,
        ⟨He.ga K "Jobs", glo_Jobs, (He.mkr_ok (c.fact 29 (f := .fa (.mkr "Jobs")) rfl)).kp, calb_mk rfl (He.mkr_ok (c.fact 29 (f := .fa (.mkr "Jobs")) rfl)) (calb_all H_c_Jobs___init__ b_c_Jobs___init__)⟩,
        ⟨He.ga K "Jobs", glo_Jobs, (He.mkr_ok (c.fact 29 (f := .fa (.mkr "Jobs")) rfl)).kp, calb_mk rfl (He.mkr_ok (c.fact 29 (f := .fa (.mkr "Jobs")) rfl)) (calb_fn H_c_Jobs___init__ b1_c_Jobs___init__ dv1_c_Jobs___init__ fun vs Hh Q E _ hs => dfl_sp (fun W => (.cons (dtup_of (c.fact 65 (f := .dtup ("Jobs", some "__init__") 0) rfl) W) .nil)) hs)⟩, nofun⟩
  intro k
  induction k with
  | zero => exact build 0 G0 fn_stuck fn_stuck fn_stuck fn_stuck fn_stuck fn_stuck fn_stuck fn_stuck fn_stuck fn_stuck fn_stuck fn_stuck fn_stuck fn_stuck fn_stuck fn_stuck fn_stuck fn_stuck fn_stuck fn_stuck fn_stuck fn_stuck fn_stuck fn_stuck fn_stuck fn_stuck fn_stuck fn_stuck fn_stuck fn_stuck fn_stuck fn_stuck fn_stuck fn_stuck
  | succ k ih =>
    have T : ∀ N, Tbl P w K mg base (2 * k + 1) (ctT N (fns (G k)) con (cl (G k))) := fun N => tblT hb ih.2 hc ih.1
    exact build (2 * k + 2) (G (k + 1)) (def_ok (n := 1000) (T N_f_is_integer) F_f_is_integer sc_f_is_integer rfl (cp_f_is_integer (G k)))
      (def_ok (n := 1000) (T N_f_is_between) F_f_is_between sc_f_is_between rfl (cp_f_is_between (G k)))
      (def_ok (n := 1000) (T N_f_is_window) F_f_is_window sc_f_is_window rfl (cp_f_is_window (G k)))
      (def_ok (n := 1000) (T N_f_is_edge) F_f_is_edge sc_f_is_edge rfl (cp_f_is_edge (G k)))
      (def_ok (n := 1000) (T N_f_gaps_of) F_f_gaps_of sc_f_gaps_of rfl (cp_f_gaps_of (G k)))
      (def_ok (n := 1000) (T N_f_moved_edges) F_f_moved_edges sc_f_moved_edges rfl (cp_f_moved_edges (G k)))
      (def_ok (n := 1000) (T N_f_onward_order) F_f_onward_order sc_f_onward_order rfl (cp_f_onward_order (G k)))
      (def_ok (n := 1000) (T N_f_ways_by) F_f_ways_by sc_f_ways_by rfl (cp_f_ways_by (G k)))
      (def_ok (n := 1000) (T N_f_require_jobs) F_f_require_jobs sc_f_require_jobs rfl (cp_f_require_jobs (G k)))
      (def_ok (n := 1000) (T N_f_require_word) F_f_require_word sc_f_require_word rfl (cp_f_require_word (G k)))
      (def_ok (n := 1000) (T N_f_is_number_for) F_f_is_number_for sc_f_is_number_for rfl (cp_f_is_number_for (G k)))
      (def_ok (n := 1000) (T N_f_bounded_window) F_f_bounded_window sc_f_bounded_window rfl (cp_f_bounded_window (G k)))
      (def_ok (n := 1000) (T N_f_bounded_in) F_f_bounded_in sc_f_bounded_in rfl (cp_f_bounded_in (G k)))
      (def_ok (n := 1000) (T N_f_bounded) F_f_bounded sc_f_bounded rfl (cp_f_bounded (G k)))
      (def_ok (n := 1000) (T N_f__law_start) F_f__law_start sc_f__law_start rfl (cp_f__law_start (G k)))
      (def_ok (n := 1000) (T N_f__law_throw) F_f__law_throw sc_f__law_throw rfl (cp_f__law_throw (G k)))
      (def_ok (n := 1000) (T N_f__law_pick) F_f__law_pick sc_f__law_pick rfl (cp_f__law_pick (G k)))
      (def_ok (n := 1000) (T N_f__law_shuffled) F_f__law_shuffled sc_f__law_shuffled rfl (cp_f__law_shuffled (G k)))
      (def_ok (n := 1000) (T N_f__law_linked) F_f__law_linked sc_f__law_linked rfl (cp_f__law_linked (G k)))
      (def_ok (n := 1000) (T N_f__law_drawn_spans) F_f__law_drawn_spans sc_f__law_drawn_spans rfl (cp_f__law_drawn_spans (G k)))
      (def_ok (n := 1000) (T N_f__law_pushing_jobs) F_f__law_pushing_jobs sc_f__law_pushing_jobs rfl (cp_f__law_pushing_jobs (G k)))
      (def_ok (n := 1000) (T N_f__law_holed_jobs) F_f__law_holed_jobs sc_f__law_holed_jobs rfl (cp_f__law_holed_jobs (G k)))
      (def_ok (n := 1000) (T N_f__law_turned) F_f__law_turned sc_f__law_turned rfl (cp_f__law_turned (G k)))
      (def_ok (n := 1000) (T N_f__law_plan) F_f__law_plan sc_f__law_plan rfl (cp_f__law_plan (G k)))
      (def_ok (n := 1000) (T N_f__law_object) F_f__law_object sc_f__law_object rfl (cp_f__law_object (G k)))
      (def_ok (n := 1000) (T N_f__law_bounded) F_f__law_bounded sc_f__law_bounded rfl (cp_f__law_bounded (G k)))
      (def_ok (n := 1000) (T N_f__law_wide) F_f__law_wide sc_f__law_wide rfl (cp_f__law_wide (G k)))
      (def_ok (n := 1000) (T N_f__law_right) F_f__law_right sc_f__law_right rfl (cp_f__law_right (G k)))
      (def_ok (n := 1000) (T N_f_law) F_f_law sc_f_law rfl (cp_f_law (G k)))
      (def_ok (n := 1000) (T N_c_Jobs___init__) F_c_Jobs___init__ sc_c_Jobs___init__ rfl (cp_c_Jobs___init__ (G k)))
      (def_ok (n := 1000) (T N_c_Jobs_windows) F_c_Jobs_windows sc_c_Jobs_windows rfl (cp_c_Jobs_windows (G k)))
      (def_ok (n := 1000) (T N_c_Jobs_edges) F_c_Jobs_edges sc_c_Jobs_edges rfl (cp_c_Jobs_edges (G k)))
      (def_ok (n := 1000) (T N_c_Jobs_with_windows_in) F_c_Jobs_with_windows_in sc_c_Jobs_with_windows_in rfl (cp_c_Jobs_with_windows_in (G k)))
      (def_ok (n := 1000) (T N_c_Jobs___eq__) F_c_Jobs___eq__ sc_c_Jobs___eq__ rfl (cp_c_Jobs___eq__ (G k)))
theorem law_facts {f : Addr} (X : K.In h) (Gn : h.Ns mainGlobals mg) (hfa : mg ("law" : Str) = some (.ref f)) (c : SaysM Hd.fs Hd.fn Hd.ts w K) :
    ∃ fd : FuncData, (∀ (s : Shared) (v : Value), BindsTo s fd ⟨[v], []⟩ [("_law_script", v)]) ∧ ∀ base : Heap, K.In base → base.Ns mainGlobals mg → FnG P w K mg base CXe 32 f fd ["_law_script"] (spF K (G 16).f_law) := by
  obtain ⟨fd, F⟩ := c.def_ 28 (d := Hd.d_f_law) rfl
  have e := hfa.symm.trans (He.glo_ok X Gn (c.fact 28 (f := .fa (.glo "law")) rfl))
  cases e
  have b := FunD.bindsA (ps := ["_law_script"]) F fun _ _ _ _ _ _ us hl => match us, hl with | [_], _ => rfl
  refine ⟨fd, fun s v => b s [v] rfl, fun base Xb Gb => ?_⟩
  have ih := all_ok (P := P) (w := w) (base := base) X Gn c 15
  have T : ∀ N, Tbl P w K mg base (2 * 15 + 1) (ctT N (fns (G 15)) con (cl (G 15))) := fun N => tblT (bn_ok X Gn c) ih.2 (con_ok X Gn c) ih.1
  exact fn_cx (def_ok (n := 1000) (T N_f_law) F sc_f_law rfl (cp_f_law (G 15)))
end
end Lw
open PySem PySem.W PySem.Calls PyProof.Rows
theorem law_end (hlaw : ∀ ns : List Int, ns.length ≤ 63 → (Lw.G 16).f_law.F [.lst (ns.map MP.D.int)] = .ok (.dat (.bl true)) []) : PySem.Challenge.rw_loadgaps_k54_bounded_jobs.Holds := by
  w_on; o_law
  refine HandSHeadRun.head_any (r := OpenLaw.row PySem.Challenge.rw_loadgaps_k54_bounded_jobs) (q := view (OpenLaw.row PySem.Challenge.rw_loadgaps_k54_bounded_jobs).prog [48]) (H := Hd.hk) (ob := Hd.ob) (M := 20000) (loose := Hd.names) (d := HandSHeadRun.topDef (OpenLaw.row PySem.Challenge.rw_loadgaps_k54_bounded_jobs).prog 48) (kwd := []) Hd.ob_eq
    (by kernel_rfl) (fun s => by kernel_rfl) Hd.run (by kernel_rfl) (by kernel_rfl) (by kernel_rfl) (by rfl) (by first | assumption | decide +kernel) (by decide +kernel) ⟨rfl, rfl, rfl, rfl, rfl, by decide +kernel⟩ ?hw ?hc
  case hw => w_witness2
  case hc =>
    refine MP.walkG (l := PySem.Challenge.rw_loadgaps_k54_bounded_jobs) (n := 63) (k := 32) (x := "_law_script") (CX := MP.CXe) rfl (by decide) (by kernel_rfl) ⟨rfl, by decide, by decide⟩ ?F ?Z
    case F =>
      intro w mg fa h Y Gn hmg0
      obtain ⟨K, KX, c⟩ := Y
      have hmg : mg ("law" : PySem.Str) = some (.ref fa) := by
        have e : (HandSHeadRun.topDef (OpenLaw.row PySem.Challenge.rw_loadgaps_k54_bounded_jobs).prog 48).name = ("law" : PySem.Str) := by kernel_rfl
        rw [← e]
        exact hmg0
      obtain ⟨fd, hb, hF⟩ := Lw.law_facts (P := (PySem.Challenge.rw_loadgaps_k54_bounded_jobs).prog) (w := w) KX Gn hmg c
      exact ⟨K, fd, _, KX, hb, fun H a ns hl _ hS => MP.law_sp hlaw H a ns hl hS, hF⟩
    case Z => exact MP.cxe_no

end
-- PN
section
/-! PN: the evaluator's equations for simp. -/
namespace MP
open PySem L2
section
variable {Γ : List Slot} {n : Nat}
@[simp] theorem ev_ess {t : Tm} : ev (.ess t) Γ = (ev t Γ).bind fun l Γ1 => (esc l Γ1).bind fun d Γ2 => .ok (.dat d) Γ2 := by first | (rw [ev]; done) | (rw [ev]; rfl)
@[simp] theorem ev_meth {sel : D → Option Fn} {o : Tm} {as : Ta} : ev (.meth sel o as) Γ = (ev o Γ).bind fun l Γ1 => match (res Γ1 l).bind sel with
    | some f => (evA as Γ1).bind fun ls Γ2 => evCall f (l :: ls) Γ2
    | none => .stuck := by first | (rw [ev]; done) | (rw [ev]; rfl)
@[simp] theorem ev_rcv {k : D → Bool} {f : List D → Option Ou} {o : Tm} {as : Ta} : ev (.rcv k f o as) Γ = (ev o Γ).bind fun l Γ1 => match res Γ1 l with
    | some d => if k d = true then (evA as Γ1).bind fun ls Γ2 => (match resA Γ2 (l :: ls) with
      | some ds => (match f ds with
        | some o => .ok o.vl Γ2
        | none => .stuck)
      | none => .stuck) else .stuck
    | none => .stuck := by first | (rw [ev]; done) | (rw [ev]; rfl)
theorem ev_dc {g : List D → Option (List D)} {as : Ta} {tg : Tg} {own : List Nat} {c k e : Tm} {ls : List Vl} {Γ1 Γ2 : List Slot} {ds xs : List D} {acc : List D × List D} (h1 : evA as Γ = .ok ls Γ1) (h2 : resA Γ1 ls = some ds) (h3 : g ds = some xs) (h4 : xs.length ≤ LIM) (h5 : noMut own Γ1 = true)
    (h6 : dcLoop (ev c) (ev k) (ev e) tg own xs ([], []) (wipeG own (lockA (locks Γ1 ls) Γ1)) = .ok acc Γ2) : ev (.dc g as tg own c k e) Γ = .ok (.new (.dct acc.1 acc.2)) (keepG own Γ1 (unlockA (locks Γ1 ls) Γ2)) := by
  rw [ev, h1]
  simp only [Rs.bind, h2, h3]
  rw [if_pos ⟨h4, h5⟩, h6]
@[simp] theorem ex_fld {cs : List Str} {f : Str} {i : Nat} {t : Tm} : ex n (.fld cs f i t) Γ = if isMt Γ i = true then (ev t Γ).bind fun l Γ1 => (esc l Γ1).bind fun d Γ2 => (match Γ2[i]? with
    | some (.mt b (.obj c ns vs)) => if ns.length < 900 ∧ cs.contains c = true then .ok .nx (Γ2.set i (.mt b (.obj c (putN f d ns vs).1 (putN f d ns vs).2))) else .stuck
    | _ => .stuck) else .stuck := by first | (rw [ex]; done) | (rw [ex]; rfl)
theorem ex_whl {c : Tm} {b : Ss} : ex n (.whl c b) Γ = whlLoop (ev c) (exs n b) n Γ := by first | (rw [ex]; done) | (rw [ex]; rfl)
end
@[simp] theorem vl_dat (d : D) : Ou.vl (.dat d) = .dat d := rfl
@[simp] theorem vl_new (d : D) : Ou.vl (.new d) = .new d := rfl
@[simp] theorem res_dat (Γ : List Slot) (d : D) : res Γ (.dat d) = some d := rfl
@[simp] theorem res_new (Γ : List Slot) (d : D) : res Γ (.new d) = some d := rfl
@[simp] theorem resA_nil (Γ : List Slot) : resA Γ [] = some [] := rfl
@[simp] theorem resA_cons (Γ : List Slot) (l : Vl) (ls : List Vl) : resA Γ (l :: ls) = (match res Γ l, resA Γ ls with
  | some d, some ds => some (d :: ds)
  | _, _ => none) := by first | rfl | (cases h : res Γ l <;> simp [resA, h])
@[simp] theorem esc_dat (Γ : List Slot) (d : D) : esc (.dat d) Γ = .ok d Γ := rfl
@[simp] theorem esc_new (Γ : List Slot) (d : D) : esc (.new d) Γ = .ok d Γ := rfl
@[simp] theorem escA_nil (Γ : List Slot) : escA [] Γ = .ok [] Γ := rfl
@[simp] theorem escA_cons (Γ : List Slot) (l : Vl) (ls : List Vl) : escA (l :: ls) Γ = (esc l Γ).bind fun d Γ1 => (escA ls Γ1).bind fun ds Γ2 => .ok (d :: ds) Γ2 := rfl
@[simp] theorem retV_dat (Γ : List Slot) (d : D) : retV (.dat d) Γ = .ok (.rt (.dat d)) Γ := rfl
@[simp] theorem retV_new (Γ : List Slot) (d : D) : retV (.new d) Γ = .ok (.rt (.new d)) Γ := rfl
@[simp] theorem pTru_bl (b : Bool) : pTru [.bl b] = some (.dat (.bl b)) := rfl
@[simp] theorem cT_lt : pCmpT .Lt = pCmp .Lt := rfl
@[simp] theorem cT_le : pCmpT .LtE = pCmp .LtE := rfl
@[simp] theorem cT_gt : pCmpT .Gt = pCmp .Gt := rfl
@[simp] theorem cT_ge : pCmpT .GtE = pCmp .GtE := rfl
@[simp] theorem cT_is : pCmpT .Is = pCmp .Is := rfl
@[simp] theorem cT_isn : pCmpT .IsNot = pCmp .IsNot := rfl
@[simp] theorem eqI (i j : Int) : pCmpT .Eq [.int i, .int j] = some (.dat (.bl (i == j))) := rfl
@[simp] theorem neI (i j : Int) : pCmpT .NotEq [.int i, .int j] = some (.dat (.bl (!(i == j)))) := rfl
@[simp] theorem ix_lst (xs : List D) (i : Int) : orP pIx pDIx [.lst xs, .int i] = (atI xs i).map .dat := by
  unfold orP
  simp only [pIx]
  cases atI xs i <;> rfl
@[simp] theorem ix_tup' (xs : List D) (i : Int) : orP pIx pDIx [.tup xs, .int i] = (atI xs i).map .dat := by
  unfold orP
  simp only [pIx]
  cases atI xs i <;> rfl
@[simp] theorem ix_dct (ks vs : List D) (k : D) : orP pIx pDIx [.dct ks vs, k] = pDIx [.dct ks vs, k] := by
  unfold orP
  cases k <;> rfl
@[simp] theorem at0 {α : Type} (x : α) (xs : List α) : atI (x :: xs) 0 = some x := by simp [atI, ixN]
@[simp] theorem at1 {α : Type} (x y : α) (xs : List α) : atI (x :: y :: xs) 1 = some y := by
  have h : ixN (x :: y :: xs).length 1 = some 1 := by
    unfold ixN
    rw [if_pos (by decide), if_pos (by simp only [List.length_cons]; omega)]
    rfl
  unfold atI
  rw [h]
  rfl
@[simp] theorem at2 {α : Type} (x y z : α) (xs : List α) : atI (x :: y :: z :: xs) 2 = some z := by
  have h : ixN (x :: y :: z :: xs).length 2 = some 2 := by
    unfold ixN
    rw [if_pos (by decide), if_pos (by simp only [List.length_cons]; omega)]
    rfl
  unfold atI
  rw [h]
  rfl
theorem at_nat {α : Type} {xs : List α} {i : Nat} (h : i < xs.length) : atI xs (i : Int) = some xs[i] := by
  have h2 : ((i : Nat) : Int) < xs.length := by omega
  simp [atI, ixN, h2, h]
@[simp] theorem st_lst (xs : List D) (i : Int) (v : D) : orT stL stDc (.lst xs) (.int i) v = (ixN xs.length i).map fun j => .lst (xs.set j v) := by
  unfold orT
  simp only [stL]
  cases ixN xs.length i <;> rfl
/-- a comprehension whose source changes nothing and is no changeable thing -/
theorem lcS {Γ Γ2 : List Slot} {g : List D → Option (List D)} {as : Ta} {tg : Tg} {own : List Nat} {c e : Tm} {ls : List Vl} {ds xs acc : List D} (h1 : evA as Γ = .ok ls Γ) (hk : locks Γ ls = []) (h2 : resA Γ ls = some ds) (h3 : g ds = some xs) (h4 : xs.length ≤ LIM) (h5 : noMut own Γ = true)
    (h6 : lcLoop (ev c) (ev e) tg own xs [] (wipeG own Γ) = .ok acc Γ2) : ev (.lc g as tg own c e) Γ = .ok (.new (.lst acc)) (keepG own Γ Γ2) := by
  have := ev_lc (Γ := Γ) (Γ1 := Γ) (Γ2 := Γ2) (acc := acc) (tg := tg) (c := c) (e := e) h1 h2 h3 h4 h5 (by rw [hk]; exact h6)
  rw [hk] at this
  exact this
theorem forS {Γ Γ2 : List Slot} {n : Nat} {g : List D → Option (List D)} {as : Ta} {tg : Tg} {b : Ss} {ls : List Vl} {ds xs : List D} {f : Fl} (h1 : evA as Γ = .ok ls Γ) (hk : locks Γ ls = []) (h2 : resA Γ ls = some ds) (h3 : g ds = some xs)
    (h6 : forLoop (exs n b) tg xs Γ = .ok f Γ2) : ex n (.for g as tg b) Γ = .ok f Γ2 := by
  have := ex_for (Γ := Γ) (n := n) (Γ1 := Γ) (Γ2 := Γ2) (f := f) (tg := tg) (b := b) h1 h2 h3 (by rw [hk]; exact h6)
  rw [hk] at this
  exact this
section
variable {n i : Nat} {s : Sm} {r : Ss} {t : Tm} {Γ Γ1 Γ2 : List Slot} {d : D} {o : Ou} {fl : Fl}
theorem exs_nx (h : ex n s Γ = .ok .nx Γ1) : exs n (.cons s r) Γ = exs n r Γ1 := by rw [exs_cons, h]; rfl
theorem exs_rt (h : ex n s Γ = .ok (.rt o) Γ1) : exs n (.cons s r) Γ = .ok (.rt o) Γ1 := by rw [exs_cons, h]; rfl
theorem ret_new (h : ev t Γ = .ok (.new d) Γ1) : ex n (.ret t) Γ = .ok (.rt (.new d)) Γ1 := by rw [ex_ret, h]; rfl
theorem ret_dat (h : ev t Γ = .ok (.dat d) Γ1) : ex n (.ret t) Γ = .ok (.rt (.dat d)) Γ1 := by rw [ex_ret, h]; rfl
theorem set_new (h : ev t Γ = .ok (.new d) Γ1) (hi : i < Γ1.length) : ex n (.set i t) Γ = .ok .nx (Γ1.set i (.mt true d)) := by rw [ex_set, h]; simp only [bind_ok, store, if_pos hi]
theorem set_dat (h : ev t Γ = .ok (.dat d) Γ1) (hi : i < Γ1.length) : ex n (.set i t) Γ = .ok .nx (Γ1.set i (.dat d)) := by rw [ex_set, h]; simp only [bind_ok, store, if_pos hi, esc_dat]
theorem ite_t {a b : Ss} (h : ev t Γ = .ok (.dat (.bl true)) Γ1) : ex n (.ite t a b) Γ = exs n a Γ1 := by rw [ex_ite, h]; rfl
theorem ite_f {a b : Ss} (h : ev t Γ = .ok (.dat (.bl false)) Γ1) : ex n (.ite t a b) Γ = exs n b Γ1 := by rw [ex_ite, h]; rfl
theorem prim1 {f : List D → Option Ou} {l : Vl} (h : ev t Γ = .ok l Γ1) (hr : res Γ1 l = some d) (hf : f [d] = some o) : ev (.prim f (.cons t .nil)) Γ = .ok o.vl Γ1 := by
  rw [ev_prim, evA_cons, h]
  simp only [bind_ok, evA_nil, resA_cons, hr, resA_nil, hf]
end
theorem runF_rt {io : List Bool} {m n : Nat} {b : Ss} {ds : List D} {o : Ou} {Γ : List Slot} {ios : List D} (h : exs n b (initG io ds ++ List.replicate m .no) = .ok (.rt o) Γ) (hl : ds.length = io.length) (ho : ioOut io Γ = some ios) : runF io m n b ds = .ok o ios := by
  unfold runF
  rw [if_pos hl, h]
  dsimp only
  rw [ho]
theorem runF_nx {io : List Bool} {m n : Nat} {b : Ss} {ds : List D} {Γ : List Slot} {ios : List D} (h : exs n b (initG io ds ++ List.replicate m .no) = .ok .nx Γ) (hl : ds.length = io.length) (ho : ioOut io Γ = some ios) : runF io m n b ds = .ok (.dat .non) ios := by
  unfold runF
  rw [if_pos hl, h]
  dsimp only
  rw [ho]
/-- calls -/
theorem call_d1 {f : Fn} {d : D} {o : Ou} {Γ : List Slot} (io : f.io = [false]) (h : f.F [d] = .ok o []) : evCall f [.dat d] Γ = .ok o.vl Γ := by
  simp [evCall, ioIx, io, h, lent, putA]
theorem call_d2 {f : Fn} {d e : D} {o : Ou} {Γ : List Slot} (io : f.io = [false, false]) (h : f.F [d, e] = .ok o []) : evCall f [.dat d, .dat e] Γ = .ok o.vl Γ := by
  simp [evCall, ioIx, io, h, lent, putA]
theorem call_d3 {f : Fn} {d e e' : D} {o : Ou} {Γ : List Slot} (io : f.io = [false, false, false]) (h : f.F [d, e, e'] = .ok o []) : evCall f [.dat d, .dat e, .dat e'] Γ = .ok o.vl Γ := by
  simp [evCall, ioIx, io, h, lent, putA]
/-- with a bag at slot i -/
theorem call_io1 {f : Fn} {bg bg' : D} {o : Ou} {b : Bool} {i : Nat} {Γ : List Slot} (io : f.io = [true]) (hi : Γ[i]? = some (.mt b bg)) (h : f.F [bg] = .ok o [bg']) : evCall f [.ref i] Γ = .ok o.vl (Γ.set i (.mt b bg')) := by
  simp [evCall, res, ioIx, io, hi, h, lent, putA, put1, isMt]
theorem call_io2 {f : Fn} {d bg bg' : D} {o : Ou} {b : Bool} {i : Nat} {Γ : List Slot} (io : f.io = [true, false]) (hi : Γ[i]? = some (.mt b bg)) (h : f.F [bg, d] = .ok o [bg']) : evCall f [.ref i, .dat d] Γ = .ok o.vl (Γ.set i (.mt b bg')) := by
  simp [evCall, res, ioIx, io, hi, h, lent, putA, put1, isMt]
theorem call_io2n {f : Fn} {d bg bg' : D} {o : Ou} {b : Bool} {i : Nat} {Γ : List Slot} (io : f.io = [true, false]) (hi : Γ[i]? = some (.mt b bg)) (h : f.F [bg, d] = .ok o [bg']) : evCall f [.ref i, .new d] Γ = .ok o.vl (Γ.set i (.mt b bg')) := by
  simp [evCall, res, ioIx, io, hi, h, lent, putA, put1, isMt]
theorem call_io3 {f : Fn} {d e bg bg' : D} {o : Ou} {b : Bool} {i : Nat} {Γ : List Slot} (io : f.io = [true, false, false]) (hi : Γ[i]? = some (.mt b bg)) (h : f.F [bg, d, e] = .ok o [bg']) : evCall f [.ref i, .dat d, .dat e] Γ = .ok o.vl (Γ.set i (.mt b bg')) := by
  simp [evCall, res, ioIx, io, hi, h, lent, putA, put1, isMt]
end MP

end
-- Q1
section
namespace Lw
open PySem L2 MP
def Bag (d : D) : Prop := ∃ a b c : Int, d = .lst [.int a, .int b, .int c]
theorem throw_pos (g : Fs) (a b c t : Int) (ha : 0 < a) (ht : 0 < t) (ht2 : t.natAbs.log2 < 9000) :
    (step g).f__law_throw.F [.lst [.int a, .int b, .int c], .int t] = .ok (.dat (.int (a % t))) [.lst [.int (a / t), .int b, .int c]] := by
  have h1 : decide (0 < a) = true := decide_eq_true ha
  simp [u_f__law_throw, runF, tm_f__law_throw, initG, res, pCmp, h1, store, esc, ixN, isMt, pInt, pBin, ht, ht2, stL, retV, ioOut]
theorem throw_neg (g : Fs) (a b c t : Int) (ha : ¬ 0 < a) (ht : 0 < t) :
    ∃ r, (step g).f__law_throw.F [.lst [.int a, .int b, .int c], .int t] = .ok (.dat (.int (r % t))) [.lst [.int a, .int b, .int (c + 1)]] := by
  have h1 : decide (0 < a) = false := decide_eq_false ha
  have m1 : ∀ x y : Int, mulB (x % 2305843009213693951) y = true := fun x y => by
    simp only [mulB, Bool.or_eq_true, decide_eq_true_eq]
    left; left
    have := Int.emod_nonneg x (show (2305843009213693951 : Int) ≠ 0 by decide)
    have := Int.emod_lt_of_pos x (show (0 : Int) < 2305843009213693951 by decide)
    omega
  have m2 : ∀ x y : Int, mulB (x % 2305843009213693907) y = true := fun x y => by
    simp only [mulB, Bool.or_eq_true, decide_eq_true_eq]
    left; left
    have := Int.emod_nonneg x (show (2305843009213693907 : Int) ≠ 0 by decide)
    have := Int.emod_lt_of_pos x (show (0 : Int) < 2305843009213693907 by decide)
    omega
  have m3 : ∀ y : Int, mulB 1000213 y = true := fun y => by simp [mulB]
  have m4 : ∀ y : Int, mulB 6007 y = true := fun y => by simp [mulB]
  have l1 : Nat.log2 4096 < 9000 := by decide
  simp [u_f__law_throw, runF, tm_f__law_throw, initG, res, pCmp, h1, store, esc, ixN, isMt, pInt, pBin, ht, m1, m2, m3, m4, l1, stL, retV, ioOut]
  exact ⟨_, rfl⟩
def ThrowOk (f : Fn) : Prop := f.io = [true, false] ∧ ∀ bg t, Bag bg → 0 < t → t.natAbs.log2 < 9000 → ∃ r bg', Bag bg' ∧ 0 ≤ r ∧ r < t ∧ f.F [bg, .int t] = .ok (.dat (.int r)) [bg']
theorem throw_ok (g : Fs) : ThrowOk (step g).f__law_throw := by
  refine ⟨rfl, fun bg t hb ht ht2 => ?_⟩
  obtain ⟨a, b, c, rfl⟩ := hb
  by_cases ha : 0 < a
  · exact ⟨_, _, ⟨_, _, _, rfl⟩, Int.emod_nonneg _ (by omega), Int.emod_lt_of_pos _ ht, throw_pos g a b c t ha ht ht2⟩
  · obtain ⟨r, h⟩ := throw_neg g a b c t ha ht
    exact ⟨_, _, ⟨_, _, _, rfl⟩, Int.emod_nonneg _ (by omega), Int.emod_lt_of_pos _ ht, h⟩
theorem log_small {n : Nat} (h : n < 2 ^ 64) : n.log2 < 9000 := by
  by_cases hn : n = 0
  · subst hn; decide
  · exact Nat.lt_of_lt_of_le ((Nat.log2_lt hn).mpr h) (by decide)
def PickOk (f : Fn) : Prop := f.io = [true, false] ∧ ∀ bg ds, Bag bg → ds ≠ [] → ds.length < 1000 → ∃ d bg', Bag bg' ∧ d ∈ ds ∧ f.F [bg, .lst ds] = .ok (.dat d) [bg']
theorem pick_ok {g : Fs} (T : ThrowOk g.f__law_throw) : PickOk (step g).f__law_pick := by
  obtain ⟨io, T⟩ := T
  refine ⟨rfl, fun bg ds hb hne hl => ?_⟩
  obtain ⟨r, bg', hb', h0, h1, e⟩ := T bg (ds.length : Int) hb (by cases ds with | nil => exact absurd rfl hne | cons _ _ => simp) (log_small (by simp; omega))
  have hr : r.toNat < ds.length := by omega
  refine ⟨ds[r.toNat], bg', hb', List.getElem_mem hr, ?_⟩
  have ix : atI ds r = some ds[r.toNat] := by
    simp only [atI, ixN]
    rw [if_pos h0, if_pos (by omega)]
    simp [hr]
  simp [u_f__law_pick, runF, tm_f__law_pick, initG, res, pLen, evCall, ioIx, io, lent, isMt, e, putA, put1, ix, ioOut]
theorem start_ok (g : Fs) (ns : List Int) (at_ : Int) (h0 : 0 ≤ at_) : ∃ bg, Bag bg ∧ (step g).f__law_start.F [.lst (ns.map D.int), .int at_] = .ok (.new bg) [] := by
  suffices h : ∃ a b : Int, (step g).f__law_start.F [.lst (ns.map D.int), .int at_] = .ok (.new (.lst [.int a, .int b, .int 0])) [] by
    obtain ⟨a, b, h⟩ := h
    exact ⟨_, ⟨a, b, 0, rfl⟩, h⟩
  have m1 : pBin .Mult [.int 23, .int at_] = some (.dat (.int (23 * at_))) := pb_mul (mul_l (by decide))
  have m2 : pBin .Mult [.int 4001, .int at_] = some (.dat (.int (4001 * at_))) := pb_mul (mul_l (by decide))
  have m3 : ∀ x y : Int, pBin .Mult [.int (x % 2147483587), .int y] = some (.dat (.int (x % 2147483587 * y))) := fun x y => pb_mul (mul_mod (by decide) (by decide))
  have m4 : ∀ x : Int, pBin .Mult [.int 13, .int x] = some (.dat (.int (13 * x))) := fun x => pb_mul (mul_l (by decide))
  have d1 : ∀ x : Int, pBin .Mod [.int x, .int 2147483587] = some (.dat (.int (x % 2147483587))) := fun x => pb_mod (by decide)
  have d2 : ∀ x : Int, pBin .Mod [.int x, .int 2147483549] = some (.dat (.int (x % 2147483549))) := fun x => pb_mod (by decide)
  have p1 : pBin .Pow [.int 10, .int 60] = some (.dat (.int (10 ^ 60))) := by kernel_rfl
  have p2 : pBin .Pow [.int (10 ^ 60), .int 12] = some (.dat (.int ((10 ^ 60) ^ 12))) := by kernel_rfl
  have p3 : pBin .Pow [.int 10, .int 18] = some (.dat (.int (10 ^ 18))) := by kernel_rfl
  have p4 : (0 : Int) < (10 ^ 60) ^ 12 := by decide +kernel
  generalize (10 ^ 60 : Int) = P60 at p1 p2 p4
  generalize P60 ^ 12 = PP at p2 p4
  generalize (10 ^ 18 : Int) = P18 at p3
  have pm : ∀ x : Int, pBin .Mod [.int x, .int PP] = some (.dat (.int (x % PP))) := fun x => pb_mod p4
  by_cases hl : at_ < (ns.length : Int)
  · have hr : at_.toNat < ns.length := by omega
    have ix : atI (ns.map D.int) at_ = some (.int ns[at_.toNat]) := by
      simp only [atI, ixN]
      rw [if_pos h0, if_pos (by simp; omega)]
      simp [hr]
    generalize ns[at_.toNat] = x at ix
    simp [u_f__law_start, runF, tm_f__law_start, initG, res, pLen, ix, hl, pCmp, store, esc, pAbs, pInt, p1, p2, p3, pm, m1, m2, m3, m4, d1, d2, pb_add, pb_sub, pMax, dLst, LIM, retV, ioOut]
  · simp [u_f__law_start, runF, tm_f__law_start, initG, res, pLen, hl, pCmp, store, esc, pAbs, pInt, p1, p2, p3, pm, m1, m2, m3, m4, d1, d2, pb_add, pb_sub, pMax, dLst, LIM, retV, ioOut]
end Lw

end
-- Q2
section
namespace Lw
open PySem L2 MP
theorem small_len {n : Nat} (h : n < 1000) : ((n : Int)).natAbs.log2 < 9000 := log_small (by simp; omega)
theorem eraseIdx_perm {α : Type} : ∀ {l : List α} {j : Nat} (h : j < l.length), (l[j] :: l.eraseIdx j).Perm l
  | x :: r, 0, _ => by simp
  | x :: r, j + 1, h => by
    have ih := eraseIdx_perm (l := r) (j := j) (by simpa using h)
    simp only [List.getElem_cons_succ, List.eraseIdx_cons_succ]
    exact (List.Perm.swap _ _ _).trans (ih.cons x)
theorem shuf_loop {th : Fn} (T : ThrowOk th) (it : D) : ∀ (zs L acc : List D) (bg : D), Bag bg → zs.length = L.length → L.length < 1000 → ∃ ys bg', Bag bg' ∧ ys.Perm L ∧
    lcLoop (ev (.con (.bl true))) (ev (.mth isL mPop 2 (.cons (.call th (.cons (.var 0) (.cons (.prim pLen (.cons (.var 2) .nil)) .nil))) .nil))) (.nm 3) [3] zs acc [.mt false bg, .dat it, .mt true (.lst L), .no] = .ok (acc ++ ys) [.mt false bg', .dat it, .mt true (.lst []), .no]
  | [], L, acc, bg, hb, hl, _ => by
    have : L = [] := List.length_eq_zero_iff.mp hl.symm
    subst this
    exact ⟨[], bg, hb, .refl _, by simp [lcLoop]⟩
  | z :: zs, L, acc, bg, hb, hl, hs => by
    have pos : 0 < L.length := by rw [← hl]; simp
    obtain ⟨r, bg1, hb1, r0, r1, e⟩ := T.2 bg (L.length : Int) hb (by omega) (small_len hs)
    have hr : r.toNat < L.length := by omega
    have el : (L.eraseIdx r.toNat).length = L.length - 1 := List.length_eraseIdx_of_lt hr
    obtain ⟨ys, bg2, hb2, p, lp⟩ := shuf_loop T it zs (L.eraseIdx r.toNat) (acc ++ [L[r.toNat]]) bg1 hb1 (by rw [el]; simp at hl; omega) (by omega)
    refine ⟨L[r.toNat] :: ys, bg2, hb2, (p.cons _).trans (eraseIdx_perm hr), ?_⟩
    have c := fun (Γ : List Slot) (h : Γ[0]? = some (.mt false bg)) => call_io2 (d := .int L.length) T.1 h e
    have ix : ixN L.length r = some r.toNat := by unfold ixN; rw [if_pos r0, if_pos (by omega)]
    have gl : L[r.toNat]? = some L[r.toNat] := List.getElem?_eq_getElem hr
    have rr : -R62 ≤ r ∧ r < R62 := by unfold R62; omega
    have step1 : ev (.mth isL mPop 2 (.cons (.call th (.cons (.var 0) (.cons (.prim pLen (.cons (.var 2) .nil)) .nil))) .nil)) [.mt false bg, .dat it, .mt true (.lst L), .dat z] = .ok (.dat L[r.toNat]) [.mt false bg1, .dat it, .mt true (.lst (L.eraseIdx r.toNat)), .dat z] := by
      simp [isL, res, pLen, c, mPop, ix, gl, rr]
    unfold lcLoop
    simp only [bnd, List.length_cons, List.length_nil, List.set_cons_succ, List.set_cons_zero, ev_con]
    simp only [show (3 : Nat) < 0 + 1 + 1 + 1 + 1 by decide, if_true, Rs.nox, Rs.bind, step1, esc_dat, wipeG, List.set_cons_succ, List.set_cons_zero]
    rw [lp]
    simp
def ShufOk (f : Fn) : Prop := f.io = [true, false] ∧ ∀ bg xs, Bag bg → xs.length < 1000 → ∃ ys bg', Bag bg' ∧ ys.Perm xs ∧ f.F [bg, .lst xs] = .ok (.new (.lst ys)) [bg']
theorem rngD_len (n : Nat) : (rngD 0 (n : Int)).length = n := by simp [rngD]
theorem lim1000 {n : Nat} (h : n < 1000) : n ≤ LIM := by unfold LIM; omega
theorem shuf_ok {g : Fs} (T : ThrowOk g.f__law_throw) : ShufOk (step g).f__law_shuffled := by
  refine ⟨rfl, fun bg xs hb hl => ?_⟩
  obtain ⟨ys, bg', hb', p, lp⟩ := shuf_loop T (.lst xs) (rngD 0 (xs.length : Int)) xs [] bg hb (rngD_len _) hl
  refine ⟨ys, bg', hb', p, ?_⟩
  have rg : gRng1 [.int (xs.length : Int)] = some (rngD 0 (xs.length : Int)) := by simp [gRng1, R62]; omega
  have l := lcS (Γ := [.mt false bg, .dat (.lst xs), .mt true (.lst xs), .no]) (as := .cons (.prim pLen (.cons (.var 1) .nil)) .nil) (ls := [.dat (.int (xs.length : Int))]) (by simp [pLen]) rfl rfl rg (by rw [rngD_len]; exact lim1000 hl) rfl lp
  have s1 : ex 1000 (.set 2 (.prim (orP pLst pLstD) (.cons (.var 1) .nil))) [.mt false bg, .dat (.lst xs), .no, .no] = .ok .nx [.mt false bg, .dat (.lst xs), .mt true (.lst xs), .no] :=
    set_new (Γ1 := [.mt false bg, .dat (.lst xs), .no, .no]) (prim1 (t := .var 1) (l := .dat (.lst xs)) (d := .lst xs) (o := .new (.lst xs)) rfl rfl rfl) (by simp)
  have l' := l
  rw [List.nil_append] at l'
  have h1 : exs 1000 (tm_f__law_shuffled g) [.mt false bg, .dat (.lst xs), .no, .no] = .ok (.rt (.new (.lst ys))) (keepG [3] [.mt false bg, .dat (.lst xs), .mt true (.lst xs), .no] [.mt false bg', .dat (.lst xs), .mt true (.lst []), .no]) := by
    unfold tm_f__law_shuffled
    rw [exs_nx s1]
    exact exs_rt (ret_new l')
  have h3 : runF [true, false] 2 1000 (tm_f__law_shuffled g) [bg, .lst xs] = .ok (.new (.lst ys)) [bg'] := runF_rt h1 rfl rfl
  exact (r_f__law_shuffled g _).trans h3
end Lw

end
-- Q3
section
namespace Lw
open PySem L2 MP
abbrev E3 : Type := Int × Int × Int
def eD (e : E3) : D := .tup [.int e.1, .int e.2.1, .int e.2.2]
def wD (w : Int × Int) : D := .tup [.int w.1, .int w.2]
def l3 (e : E3) : List Int := [e.1, e.2.1, e.2.2]
def b3 : List Int → E3
  | [a, b, c] => (a, b, c)
  | _ => (0, 0, 0)
def ltP (a b : E3) : Prop := a.1 < b.1 ∨ (a.1 = b.1 ∧ a.2.1 < b.2.1)
structure Edges (n : Int) (es : List E3) : Prop where
  rng : ∀ e ∈ es, 0 ≤ e.1 ∧ e.1 < n ∧ 0 ≤ e.2.1 ∧ e.2.1 < n ∧ (e.2.2 = 0 ∨ e.2.2 = 1)
  srt : es.Pairwise ltP
  acy : ∃ r : Int → Nat, ∀ e ∈ es, r e.1 < r e.2.1
theorem eD_tD (es : List E3) : es.map eD = (es.map l3).map tD := by
  rw [List.map_map]; rfl
theorem le3 {a b : E3} (h : lxLe (l3 a) (l3 b)) (ne : (a.1, a.2.1) ≠ (b.1, b.2.1)) : ltP a b := by
  obtain ⟨a1, a2, a3⟩ := a
  obtain ⟨b1, b2, b3⟩ := b
  simp only [lxLe, l3, HT.lexLt_cons] at h
  simp only [ne_eq, Prod.mk.injEq, not_and] at ne
  simp only [ltP]
  split at h
  · rename_i e
    split at h
    · rename_i e2
      exact absurd e2.symm (ne e.symm)
    · rename_i e2
      simp at h
      exact .inr ⟨e.symm, by omega⟩
  · rename_i e
    simp at h
    exact .inl (by omega)
theorem sort_edges (ls : List E3) (nd : (ls.map fun e => (e.1, e.2.1)).Nodup) : ∃ es : List E3, es.Perm ls ∧ es.Pairwise ltP ∧ orP pSrt pSrtT [.lst (ls.map eD)] = some (.new (.lst (es.map eD))) := by
  have pm := isortL_perm (ls.map l3)
  have all : ∀ x ∈ isortL (ls.map l3), l3 (b3 x) = x := fun x hx => by
    obtain ⟨e, _, rfl⟩ := List.mem_map.mp (pm.mem_iff.mp hx)
    rfl
  have hm : ((isortL (ls.map l3)).map b3).map l3 = isortL (ls.map l3) := by
    rw [List.map_map]
    conv => rhs; rw [← List.map_id (isortL (ls.map l3))]
    exact List.map_congr_left fun x hx => all x hx
  have hp : ((isortL (ls.map l3)).map b3).Perm ls := by
    have q := pm.map b3
    rw [List.map_map] at q
    have e : ls.map (b3 ∘ l3) = ls := by
      conv => rhs; rw [← List.map_id ls]
      exact List.map_congr_left fun x _ => rfl
    rw [e] at q
    exact q
  refine ⟨(isortL (ls.map l3)).map b3, hp, ?_, ?_⟩
  · have s := isortL_srt (ls.map l3)
    rw [← hm, List.pairwise_map] at s
    have nd2 : (((isortL (ls.map l3)).map b3).map fun e => (e.1, e.2.1)).Nodup := (hp.map _).nodup_iff.mpr nd
    have n2 : ((isortL (ls.map l3)).map b3).Pairwise fun a b => (a.1, a.2.1) ≠ (b.1, b.2.1) := by
      have := nd2
      unfold List.Nodup at this
      rwa [List.pairwise_map] at this
    exact (s.and n2).imp fun h => le3 h.1 h.2
  · cases ls with
    | nil => rfl
    | cons a r =>
      have e1 : pSrt [.lst ((a :: r).map eD)] = none := rfl
      have e2 : pSrtT [.lst ((a :: r).map eD)] = some (.new (.lst ((isortL ((a :: r).map l3)).map tD))) := by
        rw [eD_tD]
        have na : (((a :: r).map l3).all fun ns => !ns.isEmpty) = true := by
          rw [List.all_map]
          exact List.all_eq_true.mpr fun x _ => rfl
        simp only [pSrtT, tups?_map, na, if_true]
      unfold orP
      rw [e1]
      dsimp only
      rw [e2, eD_tD, hm]
end Lw

end
-- Q4
section
namespace Lw
open PySem L2 MP
def iOf : D → Int
  | .int i => i
  | _ => 0
theorem perm_ints {ys : List D} {ns : List Int} (p : ys.Perm (ns.map D.int)) : ∃ ms : List Int, ms.Perm ns ∧ ys = ms.map D.int := by
  refine ⟨ys.map iOf, ?_, ?_⟩
  · have q := p.map iOf
    rw [List.map_map] at q
    have e : ns.map (iOf ∘ D.int) = ns := by
      conv => rhs; rw [← List.map_id ns]
      exact List.map_congr_left fun _ _ => rfl
    rwa [e] at q
  · rw [List.map_map]
    conv => lhs; rw [← List.map_id ys]
    refine List.map_congr_left fun x hx => ?_
    obtain ⟨n, _, rfl⟩ := List.mem_map.mp (p.mem_iff.mp hx)
    rfl
/-- the ints 0 .. n - 1 -/
def upto (n : Nat) : List Int := (List.range n).map fun i => ((i : Nat) : Int)
theorem rngD_upto (n : Nat) : rngD 0 (n : Int) = (upto n).map D.int := by
  unfold rngD upto
  rw [List.map_map]
  simp
theorem upto_mem {n : Nat} {x : Int} : x ∈ upto n ↔ 0 ≤ x ∧ x < n := by
  unfold upto
  rw [List.mem_map]
  constructor
  · rintro ⟨i, hi, rfl⟩
    have := List.mem_range.mp hi
    omega
  · intro h
    exact ⟨x.toNat, List.mem_range.mpr (by omega), by omega⟩
theorem upto_nodup (n : Nat) : (upto n).Nodup := by
  unfold upto
  unfold List.Nodup
  rw [List.pairwise_map]
  exact List.Pairwise.imp (fun {a b} (h : a ≠ b) => by omega) (List.nodup_range (n := n))
theorem upto_len (n : Nat) : (upto n).length = n := by simp [upto]
/-- the inner loop's body, and the loop's -/
def lkI (th : Fn) : Ss := .cons (.ite (.prim (pCmpT .Eq) (.cons (.call th (.cons (.var 0) (.cons (.var 2) .nil))) (.cons (.con (.int 0)) .nil))) (.cons (.drop (.mth isL mApp 4 (.cons (.mk dTup (.cons (.var 6) (.cons (.var 7) (.cons (.call th (.cons (.var 0) (.cons (.con (.int 2)) .nil))) .nil)))) .nil))) .nil) .nil) .nil
theorem lk_turn {th : Fn} (T : ThrowOk th) {bg : D} (hb : Bag bg) {sz of job z : Int} (h0 : 0 < of) (h1 : of < 1000) (ol : D) (acc : List E3) (ha : acc.length < 10000) (a5 : Slot) :
    ∃ bg' new, Bag bg' ∧ exs 1000 (lkI th) [.mt false bg, .dat (.int sz), .dat (.int of), .lck true ol, .mt true (.lst (acc.map eD)), a5, .dat (.int job), .dat (.int z)] = .ok .nx [.mt false bg', .dat (.int sz), .dat (.int of), .lck true ol, .mt true (.lst ((acc ++ new).map eD)), a5, .dat (.int job), .dat (.int z)] ∧
      (new = [] ∨ ∃ gp : Int, (gp = 0 ∨ gp = 1) ∧ new = [(job, z, gp)]) := by
  obtain ⟨r, bg1, hb1, r0, r1, e⟩ := T.2 bg of hb h0 (log_small (by omega))
  have c := fun (Γ : List Slot) (h : Γ[0]? = some (.mt false bg)) => call_io2 (d := .int of) T.1 h e
  by_cases hr : r = 0
  · obtain ⟨gp, bg2, hb2, g0, g1, e2⟩ := T.2 bg1 2 hb1 (by decide) (by decide)
    have c2 := fun (Γ : List Slot) (h : Γ[0]? = some (.mt false bg1)) => call_io2 (d := .int 2) T.1 h e2
    refine ⟨bg2, [(job, z, gp)], hb2, ?_, .inr ⟨gp, by omega, rfl⟩⟩
    have la : acc.length < LIM := by unfold LIM; omega
    subst hr
    simp [lkI, res, c, c2, isL, dTup, show 3 ≤ LIM by decide, mApp, la, eD]
  · refine ⟨bg1, [], hb1, ?_, .inl rfl⟩
    have : (r == 0) = false := by simpa using hr
    simp [lkI, res, c, this]
theorem lk_inner {th : Fn} (T : ThrowOk th) {sz of job : Int} (h0 : 0 < of) (h1 : of < 1000) (ol : D) (a5 : Slot) : ∀ (zs : List Int) (bg : D) (acc : List E3) (a7 : Slot), Bag bg → acc.length + zs.length < 10000 →
    ∃ bg' new a7', Bag bg' ∧ forLoop (exs 1000 (lkI th)) (.nm 7) (zs.map D.int) [.mt false bg, .dat (.int sz), .dat (.int of), .lck true ol, .mt true (.lst (acc.map eD)), a5, .dat (.int job), a7] = .ok .nx [.mt false bg', .dat (.int sz), .dat (.int of), .lck true ol, .mt true (.lst ((acc ++ new).map eD)), a5, .dat (.int job), a7'] ∧
      (new.map fun e : E3 => e.2.1).Sublist zs ∧ (∀ e ∈ new, e.1 = job ∧ (e.2.2 = 0 ∨ e.2.2 = 1))
  | [], bg, acc, a7, hb, _ => ⟨bg, [], a7, hb, by simp [forLoop], .slnil, nofun⟩
  | z :: zs, bg, acc, a7, hb, hl => by
    simp only [List.length_cons] at hl
    obtain ⟨bg1, new1, hb1, e1, q1⟩ := lk_turn T hb (sz := sz) (job := job) (z := z) h0 h1 ol acc (by omega) a5
    have n1 : new1.length ≤ 1 := by rcases q1 with rfl | ⟨_, _, rfl⟩ <;> simp
    obtain ⟨bg2, new2, a72, hb2, e2, s2, m2⟩ := lk_inner T h0 h1 ol a5 zs bg1 (acc ++ new1) (.dat (.int z)) hb1 (by simp only [List.length_append]; omega)
    refine ⟨bg2, new1 ++ new2, a72, hb2, ?_, ?_, ?_⟩
    · rw [List.map_cons]
      unfold forLoop
      simp only [bnd, List.length_cons, List.length_nil, show (7 : Nat) < 0 + 1 + 1 + 1 + 1 + 1 + 1 + 1 + 1 by decide, if_true, List.set_cons_succ, List.set_cons_zero]
      rw [e1]
      simp only [bind_ok]
      rw [e2, List.append_assoc]
    · rcases q1 with rfl | ⟨gp, _, rfl⟩
      · exact s2.cons _
      · exact s2.cons₂ _
    · intro e he
      rcases List.mem_append.mp he with h | h
      · rcases q1 with rfl | ⟨gp, hg, rfl⟩
        · cases h
        · rw [List.mem_singleton.mp h]; exact ⟨rfl, hg⟩
      · exact m2 e h
/-- e leads onward in ord -/
def Fwd (ord : List Int) (e : E3) : Prop := ∃ A B, ord = A ++ e.1 :: B ∧ e.2.1 ∈ B
def lkO (th : Fn) : Ss := .cons (.for gSeq (.cons (.prim (pSl true false) (.cons (.var 3) (.cons (.prim (pBin .Add) (.cons (.var 5) (.cons (.con (.int 1)) .nil))) .nil))) .nil) (.nm 7) (lkI th)) .nil
theorem lk_outer {th : Fn} (T : ThrowOk th) {sz of : Int} (h0 : 0 < of) (h1 : of < 1000) (ord : List Int) (nd : ord.Nodup) (hlen : ord.length ≤ 50) : ∀ (rest A : List Int) (bg : D) (acc : List E3) (a5 a6 a7 : Slot), ord = A ++ rest → Bag bg → acc.length + rest.length * 50 ≤ 2500 → (∀ e ∈ acc, Fwd ord e ∧ e.1 ∈ A ∧ (e.2.2 = 0 ∨ e.2.2 = 1)) → (acc.map fun e => (e.1, e.2.1)).Nodup →
    ∃ (bg' : D) (acc' : List E3) (a5' a6' a7' : Slot), Bag bg' ∧ forLoop (exs 1000 (lkO th)) (.cons (.nm 5) (.cons (.nm 6) .nil)) (List.zipWith (fun (i : Nat) (z : Int) => D.tup [.int ((A.length + i : Nat) : Int), .int z]) (List.range rest.length) rest) [.mt false bg, .dat (.int sz), .dat (.int of), .lck true (.lst (ord.map D.int)), .mt true (.lst (acc.map eD)), a5, a6, a7] = .ok .nx [.mt false bg', .dat (.int sz), .dat (.int of), .lck true (.lst (ord.map D.int)), .mt true (.lst (acc'.map eD)), a5', a6', a7'] ∧
      (∀ e ∈ acc', Fwd ord e ∧ (e.2.2 = 0 ∨ e.2.2 = 1)) ∧ (acc'.map fun e => (e.1, e.2.1)).Nodup
  | [], A, bg, acc, a5, a6, a7, _, hb, _, hf, hn => ⟨bg, acc, a5, a6, a7, hb, by simp [forLoop], fun e he => ⟨(hf e he).1, (hf e he).2.2⟩, hn⟩
  | job :: rest, A, bg, acc, a5, a6, a7, ho, hb, hl, hf, hn => by
    have nd' := nd
    rw [ho] at nd'
    have ndr : rest.Nodup := (List.nodup_cons.mp (List.nodup_append.mp nd').2.1).2
    have jA : job ∉ A := fun h => (List.nodup_append.mp nd').2.2 job h job List.mem_cons_self rfl
    have rl : rest.length ≤ 50 := by
      have := congrArg List.length ho
      simp only [List.length_append, List.length_cons] at this
      omega
    simp only [List.length_cons] at hl
    obtain ⟨bg1, new, a71, hb1, e1, s1, m1⟩ := lk_inner T (sz := sz) (job := job) h0 h1 (.lst (ord.map D.int)) (.dat (.int ((A.length : Nat) : Int))) rest bg acc a7 hb (by omega)
    have nl : new.length ≤ rest.length := by have := s1.length_le; simpa using this
    have cut : pSl true false [.lst (ord.map D.int), .int ((A.length : Nat) + 1 : Int)] = some (.new (.lst (rest.map D.int))) := by
      have e : (((A.length : Nat) : Int) + 1) = ((A.length + 1 : Nat) : Int) := by omega
      rw [e]
      simp only [pSl, pCut, cutD, HT.sIx_nat, HT.sIx_none, List.length_map]
      have m : min (A.length + 1) ord.length = A.length + 1 := by
        rw [ho]; simp
      rw [m, ho]
      have q : (A ++ job :: rest).map D.int = (A ++ [job]).map D.int ++ rest.map D.int := by simp
      have dl : List.drop (A.length + 1) ((A ++ job :: rest).map D.int) = rest.map D.int := by
        rw [q]
        have : A.length + 1 = ((A ++ [job]).map D.int).length := by simp
        rw [this, List.drop_left]
      rw [dl, List.take_of_length_le (by simp only [List.length_map, List.length_append, List.length_cons]; omega)]
    have body : exs 1000 (lkO th) [.mt false bg, .dat (.int sz), .dat (.int of), .lck true (.lst (ord.map D.int)), .mt true (.lst (acc.map eD)), .dat (.int ((A.length : Nat) : Int)), .dat (.int job), a7] = .ok .nx [.mt false bg1, .dat (.int sz), .dat (.int of), .lck true (.lst (ord.map D.int)), .mt true (.lst ((acc ++ new).map eD)), .dat (.int ((A.length : Nat) : Int)), .dat (.int job), a71] := by
      have f := forS (n := 1000) (g := gSeq) (as := .cons (.prim (pSl true false) (.cons (.var 3) (.cons (.prim (pBin .Add) (.cons (.var 5) (.cons (.con (.int 1)) .nil))) .nil))) .nil) (tg := .nm 7) (b := lkI th) (ls := [.new (.lst (rest.map D.int))]) (ds := [.lst (rest.map D.int)]) (xs := rest.map D.int)
        (Γ := [.mt false bg, .dat (.int sz), .dat (.int of), .lck true (.lst (ord.map D.int)), .mt true (.lst (acc.map eD)), .dat (.int ((A.length : Nat) : Int)), .dat (.int job), a7]) (by simp [res, cut]) rfl rfl rfl e1
      unfold lkO
      rw [exs_nx f, exs_nil]
    have hacc : ∀ e ∈ acc ++ new, Fwd ord e ∧ e.1 ∈ A ++ [job] ∧ (e.2.2 = 0 ∨ e.2.2 = 1) := fun e he => by
      rcases List.mem_append.mp he with h | h
      · obtain ⟨q1, q2, q3⟩ := hf e h
        exact ⟨q1, List.mem_append_left _ q2, q3⟩
      · obtain ⟨q1, q2⟩ := m1 e h
        refine ⟨⟨A, rest, by rw [q1]; exact ho, s1.subset (List.mem_map_of_mem h)⟩, by rw [q1]; simp, q2⟩
    have hnod : ((acc ++ new).map fun e => (e.1, e.2.1)).Nodup := by
      rw [List.map_append, List.nodup_append]
      refine ⟨hn, ?_, fun a ha b hb2 hab => ?_⟩
      · have : (new.map fun e : E3 => e.2.1).Nodup := s1.nodup ndr
        unfold List.Nodup at this ⊢
        rw [List.pairwise_map] at this ⊢
        exact this.imp fun h z => h (Prod.mk.inj z).2
      · obtain ⟨e, he, rfl⟩ := List.mem_map.mp ha
        obtain ⟨e', he', rfl⟩ := List.mem_map.mp hb2
        have z := (Prod.mk.inj hab).1
        rw [(m1 e' he').1] at z
        exact jA (z ▸ (hf e he).2.1)
    obtain ⟨bg2, acc2, b5, b6, b7, hb2, e2, f2, n2⟩ := lk_outer T h0 h1 ord nd hlen rest (A ++ [job]) bg1 (acc ++ new) (.dat (.int ((A.length : Nat) : Int))) (.dat (.int job)) a71 (by rw [ho]; simp) hb1 (by simp only [List.length_append]; omega) hacc hnod
    refine ⟨bg2, acc2, b5, b6, b7, hb2, ?_, f2, n2⟩
    have zl : List.zipWith (fun (i : Nat) (z : Int) => D.tup [.int ((A.length + i : Nat) : Int), .int z]) (List.range (job :: rest).length) (job :: rest) = D.tup [.int ((A.length : Nat) : Int), .int job] :: List.zipWith (fun (i : Nat) (z : Int) => D.tup [.int (((A ++ [job]).length + i : Nat) : Int), .int z]) (List.range rest.length) rest := by
      rw [List.length_cons, List.range_succ_eq_map, List.zipWith_cons_cons, List.zipWith_map_left]
      congr 1
      congr 1
      funext i z
      simp only [List.length_append, List.length_cons, List.length_nil]
      congr 3
      omega
    rw [zl]
    unfold forLoop
    simp only [bnd, List.length_cons, List.length_nil, List.length_set, show (5 : Nat) < 0 + 1 + 1 + 1 + 1 + 1 + 1 + 1 + 1 by decide, show (6 : Nat) < 0 + 1 + 1 + 1 + 1 + 1 + 1 + 1 + 1 by decide, if_true, List.set_cons_succ, List.set_cons_zero]
    rw [body]
    simp only [bind_ok]
    exact e2
end Lw

end
-- Q5
section
namespace Lw
open PySem L2 MP
theorem enum_zip (ord : List Int) : (ord.map D.int).mapIdx (fun i d => D.tup [.int (i : Nat), d]) = List.zipWith (fun (i : Nat) (z : Int) => D.tup [.int ((([] : List Int).length + i : Nat) : Int), .int z]) (List.range ord.length) ord := by
  refine List.ext_getElem (by simp) fun i h1 h2 => ?_
  simp
theorem Fwd.mem {ord : List Int} {e : E3} (h : Fwd ord e) : e.1 ∈ ord ∧ e.2.1 ∈ ord := by
  obtain ⟨A, B, rfl, h⟩ := h
  exact ⟨by simp, by simp [h]⟩
theorem Fwd.idx {ord : List Int} {e : E3} (nd : ord.Nodup) (h : Fwd ord e) : ord.idxOf e.1 < ord.idxOf e.2.1 := by
  obtain ⟨A, B, rfl, h⟩ := h
  obtain ⟨n1, n2, n3⟩ := List.nodup_append.mp nd
  have a1 : e.1 ∉ A := fun z => n3 _ z _ List.mem_cons_self rfl
  have a2 : e.2.1 ∉ A := fun z => n3 _ z _ (List.mem_cons_of_mem _ h) rfl
  have ne : e.1 ≠ e.2.1 := fun z => (List.nodup_cons.mp n2).1 (z ▸ h)
  rw [List.idxOf_append, List.idxOf_append, if_neg a1, if_neg a2]
  have b : (e.1 == e.2.1) = false := by simpa using ne
  simp [List.idxOf_cons, b]
theorem edges_of {n : Nat} {ord : List Int} (p : ord.Perm (upto n)) {ls es : List E3} (h : ∀ e ∈ ls, Fwd ord e ∧ (e.2.2 = 0 ∨ e.2.2 = 1)) (q : es.Perm ls) (s : es.Pairwise ltP) : Edges n es := by
  have nd : ord.Nodup := p.nodup_iff.mpr (upto_nodup n)
  refine ⟨fun e he => ?_, s, ord.idxOf, fun e he => (h e (q.mem_iff.mp he)).1.idx nd⟩
  obtain ⟨h1, h2⟩ := h e (q.mem_iff.mp he)
  obtain ⟨m1, m2⟩ := h1.mem
  obtain ⟨b1, b2⟩ := upto_mem.mp (p.mem_iff.mp m1)
  obtain ⟨b3, b4⟩ := upto_mem.mp (p.mem_iff.mp m2)
  exact ⟨b1, b2, b3, b4, h2⟩
def LinkOk (f : Fn) : Prop := f.io = [true, false, false] ∧ ∀ bg (n : Nat) (of : Int), Bag bg → n ≤ 50 → 0 < of → of < 1000 → ∃ (es : List E3) (bg' : D), Bag bg' ∧ Edges n es ∧ f.F [bg, .int n, .int of] = .ok (.dat (.tup (es.map eD))) [bg']
theorem link_ok {g : Fs} (T : ThrowOk g.f__law_throw) (S : ShufOk g.f__law_shuffled) : LinkOk (step g).f__law_linked := by
  refine ⟨rfl, fun bg n of hb hn h0 h1 => ?_⟩
  obtain ⟨ys, bg1, hb1, p1, e1⟩ := S.2 bg (rngD 0 (n : Int)) hb (by rw [rngD_len]; omega)
  rw [rngD_upto] at p1
  obtain ⟨ord, p, rfl⟩ := perm_ints p1
  have nd : ord.Nodup := p.nodup_iff.mpr (upto_nodup n)
  have ol : ord.length = n := by rw [p.length_eq, upto_len]
  obtain ⟨bg2, acc, a5, a6, a7, hb2, e2, f2, n2⟩ := lk_outer T (sz := (n : Int)) h0 h1 ord nd (by omega) ord [] bg1 [] .no .no .no (by simp) hb1 (by simp; omega) nofun (by simp)
  obtain ⟨es, q, srt, e3⟩ := sort_edges acc n2
  refine ⟨es, bg2, hb2, edges_of p f2 q srt, ?_⟩
  have c := call_io2n (i := 0) (b := false) (Γ := [.mt false bg, .dat (.int n), .dat (.int of), .no, .no, .no, .no, .no]) S.1 rfl e1
  have rg : pLRg [.int (n : Int)] = some (.new (.lst (rngD 0 (n : Int)))) := by
    unfold pLRg
    dsimp only
    rw [if_pos]
    unfold R62 LIM
    omega
  have s1 : ex 1000 (.par [3, 4] (.cons (.call g.f__law_shuffled (.cons (.var 0) (.cons (.prim pLRg (.cons (.var 1) .nil)) .nil))) (.cons (.mk dLst .nil) .nil))) [.mt false bg, .dat (.int n), .dat (.int of), .no, .no, .no, .no, .no] = .ok .nx [.mt false bg1, .dat (.int n), .dat (.int of), .mt true (.lst (ord.map D.int)), .mt true (.lst []), .no, .no, .no] := by
    simp [rg, c, dLst, storeA, store]
  have s2 : ex 1000 (.for gEnB (.cons (.var 3) .nil) (.cons (.nm 5) (.cons (.nm 6) .nil)) (lkO g.f__law_throw)) [.mt false bg1, .dat (.int n), .dat (.int of), .mt true (.lst (ord.map D.int)), .mt true (.lst []), .no, .no, .no] = .ok .nx [.mt false bg2, .dat (.int n), .dat (.int of), .mt true (.lst (ord.map D.int)), .mt true (.lst (acc.map eD)), a5, a6, a7] := by
    have f := ex_for (n := 1000) (g := gEnB) (as := .cons (.var 3) .nil) (tg := .cons (.nm 5) (.cons (.nm 6) .nil)) (b := lkO g.f__law_throw) (ls := [.ref 3]) (ds := [.lst (ord.map D.int)]) (xs := (ord.map D.int).mapIdx fun i d => D.tup [.int (i : Nat), d])
      (Γ := [.mt false bg1, .dat (.int n), .dat (.int of), .mt true (.lst (ord.map D.int)), .mt true (.lst []), .no, .no, .no]) (Γ1 := [.mt false bg1, .dat (.int n), .dat (.int of), .mt true (.lst (ord.map D.int)), .mt true (.lst []), .no, .no, .no]) (by simp) rfl rfl (by rw [enum_zip]; exact e2)
    rw [f]
    rfl
  have s3 : ex 1000 (.ret (.prim pTup (.cons (.prim (orP pSrt pSrtT) (.cons (.var 4) .nil)) .nil))) [.mt false bg2, .dat (.int n), .dat (.int of), .mt true (.lst (ord.map D.int)), .mt true (.lst (acc.map eD)), a5, a6, a7] = .ok (.rt (.dat (.tup (es.map eD)))) [.mt false bg2, .dat (.int n), .dat (.int of), .mt true (.lst (ord.map D.int)), .mt true (.lst (acc.map eD)), a5, a6, a7] := by
    simp [res, e3, pTup]
  have h1 : exs 1000 (tm_f__law_linked g) [.mt false bg, .dat (.int n), .dat (.int of), .no, .no, .no, .no, .no] = .ok (.rt (.dat (.tup (es.map eD)))) [.mt false bg2, .dat (.int n), .dat (.int of), .mt true (.lst (ord.map D.int)), .mt true (.lst (acc.map eD)), a5, a6, a7] := by
    show exs 1000 (.cons _ (.cons (.for gEnB (.cons (.var 3) .nil) (.cons (.nm 5) (.cons (.nm 6) .nil)) (lkO g.f__law_throw)) (.cons _ .nil))) _ = _
    rw [exs_nx s1, exs_nx s2]
    exact exs_rt s3
  exact (r_f__law_linked g _).trans (runF_rt h1 rfl rfl)
end Lw

end
-- Q6
section
namespace Lw
open PySem L2 MP
theorem thr {th : Fn} (T : ThrowOk th) {bg : D} (hb : Bag bg) (t : Int) (h0 : 0 < t) (h1 : t < 1000) : ∃ r bg', Bag bg' ∧ 0 ≤ r ∧ r < t ∧ ∀ (i : Nat) (b : Bool) (Γ : List Slot), Γ[i]? = some (.mt b bg) → evCall th [.ref i, .dat (.int t)] Γ = .ok (.dat (.int r)) (Γ.set i (.mt b bg')) := by
  obtain ⟨r, bg', hb', r0, r1, e⟩ := T.2 bg t hb h0 (log_small (by omega))
  exact ⟨r, bg', hb', r0, r1, fun i b Γ h => call_io2 T.1 h e⟩
theorem pck {pk : Fn} (K : PickOk pk) {bg : D} (hb : Bag bg) (ds : List D) (h0 : ds ≠ []) (h1 : ds.length < 1000) : ∃ d bg', Bag bg' ∧ d ∈ ds ∧ ∀ (i : Nat) (b : Bool) (Γ : List Slot), Γ[i]? = some (.mt b bg) → evCall pk [.ref i, .new (.lst ds)] Γ = .ok (.dat d) (Γ.set i (.mt b bg')) := by
  obtain ⟨d, bg', hb', hd, e⟩ := K.2 bg ds hb h0 h1
  exact ⟨d, bg', hb', hd, fun i b Γ h => call_io2n K.1 h e⟩
def Win (w : Int × Int) : Prop := 0 ≤ w.1 ∧ w.1 ≤ 100 ∧ 0 ≤ w.2 ∧ w.2 ≤ 99
def dwB (th pk : Fn) : Ss := .cons (.par [5, 6] (.cons (.call th (.cons (.var 0) (.cons (.var 2) .nil))) (.cons (.call pk (.cons (.var 0) (.cons (.mk dLst (.cons (.con (.int 0)) (.cons (.con (.int 1)) (.cons (.con (.int 2)) (.cons (.con (.int 3)) (.cons (.var 2) (.cons (.var 2) (.cons (.var 2) .nil)))))))) .nil))) .nil)))
   (.cons (.ite (.prim (pCmpT .Eq) (.cons (.call th (.cons (.var 0) (.cons (.con (.int 2)) .nil))) (.cons (.con (.int 0)) .nil))) (.cons (.set 5 (.con (.int 0))) .nil) .nil)
   (.cons (.set 7 (.prim pMin (.cons (.prim (pBin .Sub) (.cons (.var 2) (.cons (.con (.int 1)) .nil))) (.cons (.prim (pBin .Add) (.cons (.var 5) (.cons (.var 6) .nil))) .nil))))
   (.cons (.drop (.mth isL mApp 3 (.cons (.mk dTup (.cons (.var 5) (.cons (.ifx (.and (.prim (pCmpT .Eq) (.cons (.call th (.cons (.var 0) (.cons (.con (.int 40)) .nil))) (.cons (.con (.int 0)) .nil))) (.prim (pCmpT .Gt) (.cons (.var 7) (.cons (.con (.int 0)) .nil)))) (.prim (pBin .Sub) (.cons (.var 7) (.cons (.con (.int 1)) .nil))) (.var 7)) .nil))) .nil))) .nil)))
theorem dw_turn {th pk : Fn} (T : ThrowOk th) (K : PickOk pk) {bg : D} (hb : Bag bg) {n room : Int} (h0 : 0 < room) (h1 : room ≤ 99) (acc : List (Int × Int)) (ha : acc.length < 10000) (a4 a5 a6 a7 : Slot) :
    ∃ bg' w b5 b6 b7, Bag bg' ∧ Win w ∧ exs 1000 (dwB th pk) [.mt false bg, .dat (.int n), .dat (.int room), .mt true (.lst (acc.map wD)), a4, a5, a6, a7] = .ok .nx [.mt false bg', .dat (.int n), .dat (.int room), .mt true (.lst ((acc ++ [w]).map wD)), a4, b5, b6, b7] := by
  obtain ⟨low, bg1, hb1, l0, l1, c1⟩ := thr T hb room h0 (by omega)
  obtain ⟨d, bg2, hb2, hd, c2⟩ := pck K hb1 [.int 0, .int 1, .int 2, .int 3, .int room, .int room, .int room] (by simp) (by simp)
  have hd' : ∃ lg : Int, d = .int lg ∧ 0 ≤ lg := by
    simp only [List.mem_cons, List.not_mem_nil, or_false] at hd
    rcases hd with rfl | rfl | rfl | rfl | rfl | rfl | rfl <;> exact ⟨_, rfl, by omega⟩
  obtain ⟨lg, rfl, lg0⟩ := hd'
  obtain ⟨r, bg3, hb3, r0, r1, c3⟩ := thr T hb2 2 (by decide) (by decide)
  obtain ⟨q, bg4, hb4, q0, q1, c4⟩ := thr T hb3 40 (by decide) (by decide)
  have la : acc.length < LIM := by unfold LIM; omega
  have key : ∀ lo : Int, 0 ≤ lo → lo < room → ∃ w b7, Win w ∧ exs 1000 (.cons (.set 7 (.prim pMin (.cons (.prim (pBin .Sub) (.cons (.var 2) (.cons (.con (.int 1)) .nil))) (.cons (.prim (pBin .Add) (.cons (.var 5) (.cons (.var 6) .nil))) .nil))))
      (.cons (.drop (.mth isL mApp 3 (.cons (.mk dTup (.cons (.var 5) (.cons (.ifx (.and (.prim (pCmpT .Eq) (.cons (.call th (.cons (.var 0) (.cons (.con (.int 40)) .nil))) (.cons (.con (.int 0)) .nil))) (.prim (pCmpT .Gt) (.cons (.var 7) (.cons (.con (.int 0)) .nil)))) (.prim (pBin .Sub) (.cons (.var 7) (.cons (.con (.int 1)) .nil))) (.var 7)) .nil))) .nil))) .nil)) [.mt false bg3, .dat (.int n), .dat (.int room), .mt true (.lst (acc.map wD)), a4, .dat (.int lo), .dat (.int lg), a7] =
        .ok .nx [.mt false bg4, .dat (.int n), .dat (.int room), .mt true (.lst ((acc ++ [w]).map wD)), a4, .dat (.int lo), .dat (.int lg), b7] := fun lo lo0 lo1 => by
    have mn : ∃ hi : Int, 0 ≤ hi ∧ hi ≤ room - 1 ∧ pMin [.int (room - 1), .int (lo + lg)] = some (.dat (.int hi)) := by
      by_cases z : lo + lg < room - 1
      · exact ⟨lo + lg, by omega, by omega, by simp [pMin, z]⟩
      · exact ⟨room - 1, by omega, by omega, by simp [pMin, z]⟩
    obtain ⟨hi, hi0, hi1, mn⟩ := mn
    by_cases hq : q = 0
    · subst hq
      by_cases hp : 0 < hi
      · refine ⟨(lo, hi - 1), .dat (.int hi), ⟨lo0, by omega, by simp; omega, by simp; omega⟩, ?_⟩
        have hp' : decide (0 < hi) = true := decide_eq_true hp
        simp [mn, store, isL, c4, hp', dTup, show 2 ≤ LIM by decide, mApp, la, wD]
      · refine ⟨(lo, hi), .dat (.int hi), ⟨lo0, by omega, by simp; omega, by simp; omega⟩, ?_⟩
        have hp' : decide (0 < hi) = false := decide_eq_false hp
        simp [mn, store, isL, c4, hp', dTup, show 2 ≤ LIM by decide, mApp, la, wD]
    · refine ⟨(lo, hi), .dat (.int hi), ⟨lo0, by omega, by simp; omega, by simp; omega⟩, ?_⟩
      have hq' : (q == 0) = false := by simpa using hq
      simp [mn, store, isL, c4, hq', dTup, show 2 ≤ LIM by decide, mApp, la, wD]
  by_cases hr : r = 0
  · subst hr
    obtain ⟨w, b7, hw, e⟩ := key 0 (by omega) h0
    refine ⟨bg4, w, .dat (.int 0), .dat (.int lg), b7, hb4, hw, ?_⟩
    unfold dwB
    rw [exs_nx (Γ1 := [.mt false bg2, .dat (.int n), .dat (.int room), .mt true (.lst (acc.map wD)), a4, .dat (.int low), .dat (.int lg), a7]) (by simp [c1, c2, dLst, show 7 ≤ LIM by decide, storeA, store])]
    rw [exs_nx (Γ1 := [.mt false bg3, .dat (.int n), .dat (.int room), .mt true (.lst (acc.map wD)), a4, .dat (.int 0), .dat (.int lg), a7]) (by simp [c3, store])]
    exact e
  · obtain ⟨w, b7, hw, e⟩ := key low l0 l1
    refine ⟨bg4, w, .dat (.int low), .dat (.int lg), b7, hb4, hw, ?_⟩
    have hr' : (r == 0) = false := by simpa using hr
    unfold dwB
    rw [exs_nx (Γ1 := [.mt false bg2, .dat (.int n), .dat (.int room), .mt true (.lst (acc.map wD)), a4, .dat (.int low), .dat (.int lg), a7]) (by simp [c1, c2, dLst, show 7 ≤ LIM by decide, storeA, store])]
    rw [exs_nx (Γ1 := [.mt false bg3, .dat (.int n), .dat (.int room), .mt true (.lst (acc.map wD)), a4, .dat (.int low), .dat (.int lg), a7]) (by simp [c3, hr'])]
    exact e
theorem dw_loop {th pk : Fn} (T : ThrowOk th) (K : PickOk pk) {n room : Int} (h0 : 0 < room) (h1 : room ≤ 99) : ∀ (zs : List D) (bg : D) (acc : List (Int × Int)) (a4 a5 a6 a7 : Slot), Bag bg → acc.length + zs.length < 10000 → (∀ w ∈ acc, Win w) →
    ∃ (bg' : D) (ws : List (Int × Int)) (b4 b5 b6 b7 : Slot), Bag bg' ∧ forLoop (exs 1000 (dwB th pk)) (.nm 4) zs [.mt false bg, .dat (.int n), .dat (.int room), .mt true (.lst (acc.map wD)), a4, a5, a6, a7] = .ok .nx [.mt false bg', .dat (.int n), .dat (.int room), .mt true (.lst (ws.map wD)), b4, b5, b6, b7] ∧ (∀ w ∈ ws, Win w) ∧ ws.length = acc.length + zs.length
  | [], bg, acc, a4, a5, a6, a7, hb, _, hw => ⟨bg, acc, a4, a5, a6, a7, hb, by simp [forLoop], hw, by simp⟩
  | z :: zs, bg, acc, a4, a5, a6, a7, hb, hl, hw => by
    simp only [List.length_cons] at hl
    obtain ⟨bg1, w, b5, b6, b7, hb1, w1, e1⟩ := dw_turn T K hb (n := n) h0 h1 acc (by omega) (.dat z) a5 a6 a7
    obtain ⟨bg2, ws, c4, c5, c6, c7, hb2, e2, w2, l2⟩ := dw_loop T K (n := n) h0 h1 zs bg1 (acc ++ [w]) (.dat z) b5 b6 b7 hb1 (by simp only [List.length_append, List.length_singleton]; omega) (fun x hx => by
      rcases List.mem_append.mp hx with h | h
      · exact hw x h
      · rw [List.mem_singleton.mp h]; exact w1)
    refine ⟨bg2, ws, c4, c5, c6, c7, hb2, ?_, w2, by rw [l2]; simp; omega⟩
    unfold forLoop
    simp only [bnd, List.length_cons, List.length_nil, show (4 : Nat) < 0 + 1 + 1 + 1 + 1 + 1 + 1 + 1 + 1 by decide, if_true, List.set_cons_succ, List.set_cons_zero]
    rw [e1]
    simp only [bind_ok]
    exact e2
def DrawOk (f : Fn) : Prop := f.io = [true, false, false] ∧ ∀ bg (n : Nat) (room : Int), Bag bg → n ≤ 50 → 0 < room → room ≤ 99 → ∃ (ws : List (Int × Int)) (bg' : D), Bag bg' ∧ ws.length = n ∧ (∀ w ∈ ws, Win w) ∧ f.F [bg, .int n, .int room] = .ok (.dat (.tup (ws.map wD))) [bg']
theorem rng1 {n : Nat} (h : n ≤ 1000) : gRng1 [.int (n : Int)] = some (rngD 0 (n : Int)) := by
  simp [gRng1, R62]; omega
theorem draw_ok {g : Fs} (T : ThrowOk g.f__law_throw) (K : PickOk g.f__law_pick) : DrawOk (step g).f__law_drawn_spans := by
  refine ⟨rfl, fun bg n room hb hn h0 h1 => ?_⟩
  obtain ⟨bg1, ws, b4, b5, b6, b7, hb1, e1, w1, l1⟩ := dw_loop T K (n := (n : Int)) h0 h1 (rngD 0 (n : Int)) bg [] .no .no .no .no hb (by rw [rngD_len]; simp; omega) nofun
  refine ⟨ws, bg1, hb1, by rw [l1, rngD_len]; simp, w1, ?_⟩
  have s2 := forS (n := 1000) (g := gRng1) (as := .cons (.var 1) .nil) (tg := .nm 4) (b := dwB g.f__law_throw g.f__law_pick) (ls := [.dat (.int n)]) (Γ := [.mt false bg, .dat (.int n), .dat (.int room), .mt true (.lst []), .no, .no, .no, .no]) (by simp) rfl rfl (rng1 (by omega)) e1
  have h1 : exs 1000 (tm_f__law_drawn_spans g) [.mt false bg, .dat (.int n), .dat (.int room), .no, .no, .no, .no, .no] = .ok (.rt (.dat (.tup (ws.map wD)))) [.mt false bg1, .dat (.int n), .dat (.int room), .mt true (.lst (ws.map wD)), b4, b5, b6, b7] := by
    show exs 1000 (.cons _ (.cons (.for gRng1 (.cons (.var 1) .nil) (.nm 4) (dwB g.f__law_throw g.f__law_pick)) (.cons _ .nil))) _ = _
    rw [exs_nx (Γ1 := [.mt false bg, .dat (.int n), .dat (.int room), .mt true (.lst []), .no, .no, .no, .no]) (by simp [dLst, store]), exs_nx s2]
    exact exs_rt (by simp [res, pTup])
  exact (r_f__law_drawn_spans g _).trans (runF_rt h1 rfl rfl)
end Lw

end
-- Q7
section
namespace Lw
open PySem L2 MP
theorem lift_list {α : Type} {f : α → D} {Q : α → Prop} : ∀ {ds : List D}, (∀ d ∈ ds, ∃ a, Q a ∧ d = f a) → ∃ as : List α, ds = as.map f ∧ ∀ a ∈ as, Q a
  | [], _ => ⟨[], rfl, nofun⟩
  | d :: ds, h => by
    obtain ⟨a, q, rfl⟩ := h d List.mem_cons_self
    obtain ⟨as, rfl, r⟩ := lift_list (ds := ds) fun x hx => h x (List.mem_cons_of_mem _ hx)
    refine ⟨a :: as, rfl, fun x hx => ?_⟩
    rcases List.mem_cons.mp hx with z | z
    · rw [z]; exact q
    · exact r x z
def modD (ws : List (Int × Int)) (es : List E3) : D := .tup [.tup (ws.map wD), .tup (es.map eD)]
structure Mod (ws : List (Int × Int)) (es : List E3) : Prop where
  win : ∀ w ∈ ws, Win w
  few : ws.length ≤ 12
  edg : Edges ws.length es
def MakeOk (f : Fn) : Prop := f.io = [true] ∧ ∀ bg, Bag bg → ∃ ws es bg', Bag bg' ∧ Mod ws es ∧ f.F [bg] = .ok (.dat (modD ws es)) [bg']
theorem edges_one {n a b g : Int} (h : 0 ≤ a ∧ a < n ∧ 0 ≤ b ∧ b < n) (ne : a ≠ b) (hg : g = 0 ∨ g = 1) : Edges n [(a, b, g)] := by
  refine ⟨fun e he => ?_, List.pairwise_singleton _ _, fun x => if x = a then 0 else 1, fun e he => ?_⟩
  · rw [List.mem_singleton.mp he]; exact ⟨h.1, h.2.1, h.2.2.1, h.2.2.2, hg⟩
  · rw [List.mem_singleton.mp he]
    simp [Ne.symm ne]
theorem edges_nil {n : Int} : Edges n [] := ⟨nofun, .nil, fun _ => 0, nofun⟩
theorem hole_ok {g : Fs} (T : ThrowOk g.f__law_throw) : MakeOk (step g).f__law_holed_jobs := by
  refine ⟨rfl, fun bg hb => ?_⟩
  obtain ⟨r1, bg1, hb1, p1, q1, c1⟩ := thr T hb 2 (by decide) (by decide)
  obtain ⟨r2, bg2, hb2, p2, q2, c2⟩ := thr T hb1 2 (by decide) (by decide)
  -- the spans
  obtain ⟨ds, Γ3, e3, ⟨bg3, hb3, rfl⟩, d3, l3⟩ := lc_inv (ec := ev (.con (.bl true))) (ee := ev (.mk dTup (.cons (.con (.int 0)) (.cons (.prim (pBin .Add) (.cons (.prim (pBin .Add) (.cons (.var 1) (.cons (.con (.int 1)) .nil))) (.cons (.call g.f__law_throw (.cons (.var 0) (.cons (.con (.int 2)) .nil))) .nil))) .nil)))) (tg := .nm 3) (own := [3])
    (fun Γ => ∃ bg, Bag bg ∧ Γ = [.mt false bg, .dat (.int (1 + r1)), .no, .no]) (fun d => ∃ w, Win w ∧ d = wD w) (xs := rngD 0 (2 + r2)) (acc := []) (Γ := [.mt false bg2, .dat (.int (1 + r1)), .no, .no]) (fun x hx Γ ⟨b, hb, hΓ⟩ => by
      subst hΓ
      obtain ⟨r, b', hb', p, q, c⟩ := thr T hb 2 (by decide) (by decide)
      refine ⟨[.mt false b, .dat (.int (1 + r1)), .no, .dat x], .dat (wD (0, 1 + r1 + 1 + r)), [.mt false b', .dat (.int (1 + r1)), .no, .dat x], wD (0, 1 + r1 + 1 + r), [.mt false b', .dat (.int (1 + r1)), .no, .dat x], by simp [bnd], by simp, by simp [c, dTup, show 2 ≤ LIM by decide, wD], rfl, ⟨(0, 1 + r1 + 1 + r), ⟨by simp, by simp, by simp; omega, by simp; omega⟩, rfl⟩, b', hb', rfl⟩) ⟨bg2, hb2, rfl⟩ nofun
  obtain ⟨ws, rfl, hw⟩ := lift_list d3
  have wl : ws.length = 2 + r2.toNat := by
    simp only [List.length_map, List.length_nil, rngD, List.length_range] at l3
    omega
  have hlc := ev_lc (Γ := [.mt false bg1, .dat (.int (1 + r1)), .no, .no]) (g := gRng1) (as := .cons (.prim (pBin .Add) (.cons (.con (.int 2)) (.cons (.call g.f__law_throw (.cons (.var 0) (.cons (.con (.int 2)) .nil))) .nil))) .nil) (ls := [.dat (.int (2 + r2))]) (Γ1 := [.mt false bg2, .dat (.int (1 + r1)), .no, .no]) (ds := [.int (2 + r2)]) (xs := rngD 0 (2 + r2)) (by simp [c2]) rfl (by
      show (if -R62 ≤ 2 + r2 ∧ 2 + r2 < R62 then some (rngD 0 (2 + r2)) else none) = _
      rw [if_pos (by unfold R62; omega)]) (by
      have : (rngD 0 (2 + r2)).length = (2 + r2).toNat := by simp [rngD]
      rw [this]; unfold LIM; omega) rfl e3
  obtain ⟨r4, bg4, hb4, p4, q4, c4⟩ := thr T hb3 2 (by decide) (by decide)
  obtain ⟨r5, bg5, hb5, p5, q5, c5⟩ := thr T hb4 2 (by decide) (by decide)
  have first : ∀ t : Tm, ev t [.mt false bg1, .dat (.int (1 + r1)), .no, .no] = .ok (.new (.lst (ws.map wD))) [.mt false bg3, .dat (.int (1 + r1)), .no, .no] →
      ex 1000 (.set 2 (.prim (pBin .Add) (.cons (.mk dLst (.cons (.mk dTup (.cons (.var 1) (.cons (.var 1) .nil))) .nil)) (.cons t .nil)))) [.mt false bg1, .dat (.int (1 + r1)), .no, .no] = .ok .nx [.mt false bg3, .dat (.int (1 + r1)), .mt true (.lst (((1 + r1, 1 + r1) :: ws).map wD)), .no] := fun t ht => by
    have pa : pBin .Add [.lst [.tup [.int (1 + r1), .int (1 + r1)]], .lst (ws.map wD)] = some (.new (.lst (((1 + r1, 1 + r1) :: ws).map wD))) := by
      show (if 1 + (ws.map wD).length ≤ LIM then some (Ou.new (.lst _)) else none) = _
      rw [if_pos (by rw [List.length_map, wl]; unfold LIM; omega)]
      rfl
    simp [ht, dTup, dLst, show 2 ≤ LIM by decide, show 1 ≤ LIM by decide, pa, store]
  have s2 := first _ hlc
  have win : ∀ w ∈ (1 + r1, 1 + r1) :: ws, Win w := fun w hx => by
    rcases List.mem_cons.mp hx with z | z
    · rw [z]; exact ⟨by simp; omega, by simp; omega, by simp; omega, by simp; omega⟩
    · exact hw w z
  have s1 : ex 1000 (.set 1 (.prim (pBin .Add) (.cons (.con (.int 1)) (.cons (.call g.f__law_throw (.cons (.var 0) (.cons (.con (.int 2)) .nil))) .nil)))) [.mt false bg, .no, .no, .no] = .ok .nx [.mt false bg1, .dat (.int (1 + r1)), .no, .no] := by
    simp [c1, store]
  by_cases hr : r4 = 0
  · refine ⟨(1 + r1, 1 + r1) :: ws, [(1, 2, r5)], bg5, hb5, ⟨win, by simp; omega, edges_one (by simp; omega) (by decide) (by omega)⟩, ?_⟩
    subst hr
    have h1 : exs 1000 (tm_f__law_holed_jobs g) [.mt false bg, .no, .no, .no] = .ok (.rt (.dat (modD ((1 + r1, 1 + r1) :: ws) [(1, 2, r5)]))) [.mt false bg5, .dat (.int (1 + r1)), .mt true (.lst (((1 + r1, 1 + r1) :: ws).map wD)), .no] := by
      unfold tm_f__law_holed_jobs
      rw [exs_nx s1, exs_nx s2]
      exact exs_rt (by simp [res, pTup, c4, c5, dTup, show 3 ≤ LIM by decide, show 2 ≤ LIM by decide, show 1 ≤ LIM by decide, modD, eD])
    exact (r_f__law_holed_jobs g _).trans (runF_rt h1 rfl rfl)
  · refine ⟨(1 + r1, 1 + r1) :: ws, [], bg4, hb4, ⟨win, by simp; omega, edges_nil⟩, ?_⟩
    have hr' : (r4 == 0) = false := by simpa using hr
    have h1 : exs 1000 (tm_f__law_holed_jobs g) [.mt false bg, .no, .no, .no] = .ok (.rt (.dat (modD ((1 + r1, 1 + r1) :: ws) []))) [.mt false bg4, .dat (.int (1 + r1)), .mt true (.lst (((1 + r1, 1 + r1) :: ws).map wD)), .no] := by
      unfold tm_f__law_holed_jobs
      rw [exs_nx s1, exs_nx s2]
      exact exs_rt (by simp [res, pTup, c4, hr', dTup, show 2 ≤ LIM by decide, modD])
    exact (r_f__law_holed_jobs g _).trans (runF_rt h1 rfl rfl)
end Lw

end
-- Q8
section
namespace Lw
open PySem L2 MP
theorem edges_perm {n : Int} {ls es : List E3} (h : ∀ e ∈ ls, 0 ≤ e.1 ∧ e.1 < n ∧ 0 ≤ e.2.1 ∧ e.2.1 < n ∧ (e.2.2 = 0 ∨ e.2.2 = 1)) (r : Int → Nat) (hr : ∀ e ∈ ls, r e.1 < r e.2.1) (q : es.Perm ls) (s : es.Pairwise ltP) : Edges n es :=
  ⟨fun e he => h e (q.mem_iff.mp he), s, r, fun e he => hr e (q.mem_iff.mp he)⟩
def psB (th : Fn) : Ss := .cons (.drop (.mth isL mApp 2 (.cons (.mk dTup (.cons (.con (.int 0)) (.cons (.prim (pBin .Add) (.cons (.prim (pBin .Add) (.cons (.var 1) (.cons (.con (.int 1)) .nil))) (.cons (.call th (.cons (.var 0) (.cons (.con (.int 2)) .nil))) .nil))) .nil))) .nil)))
   (.cons (.drop (.mth isL mApp 3 (.cons (.mk dTup (.cons (.con (.int 0)) (.cons (.var 4) (.cons (.con (.int 1)) .nil)))) .nil))) .nil)
theorem ps_loop {th : Fn} (T : ThrowOk th) {u : Int} (u0 : 2 ≤ u) (u1 : u ≤ 3) : ∀ (zs : List Int) (bg : D) (ws : List (Int × Int)) (ls : List E3) (a4 : Slot), Bag bg → ws.length + zs.length < 1000 → ls.length + zs.length < 1000 → (∀ w ∈ ws, Win w) →
    ∃ (bg' : D) (vs : List (Int × Int)) (b4 : Slot), Bag bg' ∧ (∀ w ∈ vs, Win w) ∧ vs.length = ws.length + zs.length ∧ forLoop (exs 1000 (psB th)) (.nm 4) (zs.map D.int) [.mt false bg, .dat (.int u), .mt true (.lst (ws.map wD)), .mt true (.lst (ls.map eD)), a4] = .ok .nx [.mt false bg', .dat (.int u), .mt true (.lst (vs.map wD)), .mt true (.lst ((ls ++ zs.map fun z => (0, z, 1)).map eD)), b4]
  | [], bg, ws, ls, a4, hb, _, _, hw => ⟨bg, ws, a4, hb, hw, by simp, by simp [forLoop]⟩
  | z :: zs, bg, ws, ls, a4, hb, h1, h2, hw => by
    simp only [List.length_cons] at h1 h2
    obtain ⟨r, bg1, hb1, p, q, c⟩ := thr T hb 2 (by decide) (by decide)
    have la : ws.length < LIM := by unfold LIM; omega
    have lb : ls.length < LIM := by unfold LIM; omega
    have w1 : Win (0, u + 1 + r) := ⟨by simp, by simp, by simp; omega, by simp; omega⟩
    obtain ⟨bg2, vs, b4, hb2, hv, lv, e2⟩ := ps_loop T u0 u1 zs bg1 (ws ++ [(0, u + 1 + r)]) (ls ++ [(0, z, 1)]) (.dat (.int z)) hb1 (by simp only [List.length_append, List.length_singleton]; omega) (by simp only [List.length_append, List.length_singleton]; omega) (fun x hx => by
      rcases List.mem_append.mp hx with h | h
      · exact hw x h
      · rw [List.mem_singleton.mp h]; exact w1)
    refine ⟨bg2, vs, b4, hb2, hv, by rw [lv]; simp; omega, ?_⟩
    have body : exs 1000 (psB th) [.mt false bg, .dat (.int u), .mt true (.lst (ws.map wD)), .mt true (.lst (ls.map eD)), .dat (.int z)] = .ok .nx [.mt false bg1, .dat (.int u), .mt true (.lst ((ws ++ [(0, u + 1 + r)]).map wD)), .mt true (.lst ((ls ++ [(0, z, 1)]).map eD)), .dat (.int z)] := by
      simp [psB, isL, c, dTup, show 2 ≤ LIM by decide, show 3 ≤ LIM by decide, mApp, la, lb, wD, eD]
    rw [List.map_cons]
    unfold forLoop
    simp only [bnd, List.length_cons, List.length_nil, show (4 : Nat) < 0 + 1 + 1 + 1 + 1 + 1 by decide, if_true, List.set_cons_succ, List.set_cons_zero]
    rw [body]
    simp only [bind_ok]
    rw [e2]
    simp
theorem push_ok {g : Fs} (T : ThrowOk g.f__law_throw) (K : PickOk g.f__law_pick) : MakeOk (step g).f__law_pushing_jobs := by
  refine ⟨rfl, fun bg hb => ?_⟩
  obtain ⟨r1, bg1, hb1, p1, q1, c1⟩ := thr T hb 2 (by decide) (by decide)
  generalize hu : 2 + r1 = u
  have u0 : 2 ≤ u := by omega
  have u1 : u ≤ 3 := by omega
  generalize hz : ((List.range u.toNat).map fun i => 1 + ((i : Nat) : Int)) = zs
  have zl : zs.length = u.toNat := by rw [← hz]; simp
  have zm : ∀ z ∈ zs, 1 ≤ z ∧ z ≤ u := fun z h => by
    rw [← hz] at h
    obtain ⟨i, hi, rfl⟩ := List.mem_map.mp h
    have := List.mem_range.mp hi
    omega
  have zn : zs.Nodup := by
    rw [← hz]
    unfold List.Nodup
    rw [List.pairwise_map]
    exact List.Pairwise.imp (fun {a b} (h : a ≠ b) => by omega) (List.nodup_range (n := u.toNat))
  have rg : gRng2 [.int 1, .int (u + 1)] = some (zs.map D.int) := by
    have e : rngD 1 (u + 1) = zs.map D.int := by
      rw [← hz, List.map_map]
      unfold rngD
      rw [show (u + 1 - 1).toNat = u.toNat by congr 1; omega]
      rfl
    show (if -R62 ≤ 1 ∧ 1 < R62 ∧ -R62 ≤ u + 1 ∧ u + 1 < R62 then some (rngD 1 (u + 1)) else none) = _
    rw [if_pos (by unfold R62; omega), e]
  obtain ⟨bg2, vs, b4, hb2, hv, lv, e2⟩ := ps_loop T u0 u1 zs bg1 [(0, 9)] [] .no hb1 (by simp; omega) (by simp; omega) (fun w hw => by rw [List.mem_singleton.mp hw]; exact ⟨by decide, by decide, by decide, by decide⟩)
  rw [List.nil_append] at e2
  generalize hls : (zs.map fun z => ((0, z, 1) : E3)) = ls at e2
  obtain ⟨d, bg3, hb3, hd, c3⟩ := pck K hb2 [.int 0, .int 0, .int 1, .int 2] (by simp) (by simp)
  have hd' : ∃ lg : Int, d = .int lg ∧ 0 ≤ lg ∧ lg ≤ 2 := by
    simp only [List.mem_cons, List.not_mem_nil, or_false] at hd
    rcases hd with rfl | rfl | rfl | rfl <;> exact ⟨_, rfl, by omega⟩
  obtain ⟨lg, rfl, lg0, lg1⟩ := hd'
  obtain ⟨r4, bg4, hb4, p4, q4, c4⟩ := thr T hb3 2 (by decide) (by decide)
  have vl : vs.length < LIM := by rw [lv]; simp only [List.length_singleton]; unfold LIM; omega
  have vl1 : vs.length + 1 < LIM := by rw [lv]; simp only [List.length_singleton]; unfold LIM; omega
  have ll : ls.length = u.toNat := by rw [← hls]; simpa using zl
  have ll' : ls.length < LIM := by rw [ll]; unfold LIM; omega
  -- the spans: one more or not
  have spans : ∃ (bg5 : D) (ws : List (Int × Int)), Bag bg5 ∧ (∀ w ∈ ws, Win w) ∧ u + 2 ≤ ws.length ∧ ws.length ≤ 12 ∧ ex 1000 (.ite (.prim (pCmpT .Eq) (.cons (.call g.f__law_throw (.cons (.var 0) (.cons (.con (.int 2)) .nil))) (.cons (.con (.int 0)) .nil))) (.cons (.drop (.mth isL mApp 2 (.cons (.mk dTup (.cons (.call g.f__law_throw (.cons (.var 0) (.cons (.con (.int 3)) .nil))) (.cons (.prim (pBin .Add) (.cons (.con (.int 3)) (.cons (.call g.f__law_throw (.cons (.var 0) (.cons (.con (.int 4)) .nil))) .nil))) .nil))) .nil))) .nil) .nil)
      [.mt false bg3, .dat (.int u), .mt true (.lst ((vs ++ [(0, lg)]).map wD)), .mt true (.lst (ls.map eD)), b4] = .ok .nx [.mt false bg5, .dat (.int u), .mt true (.lst (ws.map wD)), .mt true (.lst (ls.map eD)), b4] := by
    have wv : ∀ w ∈ vs ++ [(0, lg)], Win w := fun x hx => by
      rcases List.mem_append.mp hx with h | h
      · exact hv x h
      · rw [List.mem_singleton.mp h]; exact ⟨by simp, by simp, by simp; omega, by simp; omega⟩
    by_cases hr : r4 = 0
    · subst hr
      obtain ⟨r5, bg5, hb5, p5, q5, c5⟩ := thr T hb4 3 (by decide) (by decide)
      obtain ⟨r6, bg6, hb6, p6, q6, c6⟩ := thr T hb5 4 (by decide) (by decide)
      refine ⟨bg6, vs ++ [(0, lg)] ++ [(r5, 3 + r6)], hb6, fun x hx => ?_, by simp [lv]; omega, by simp [lv]; omega, ?_⟩
      · rcases List.mem_append.mp hx with h | h
        · exact wv x h
        · rw [List.mem_singleton.mp h]; exact ⟨by simp; omega, by simp; omega, by simp; omega, by simp; omega⟩
      · simp [c4, isL, c5, c6, dTup, show 2 ≤ LIM by decide, mApp, vl1, wD]
    · have hr' : (r4 == 0) = false := by simpa using hr
      exact ⟨bg4, vs ++ [(0, lg)], hb4, wv, by simp [lv]; omega, by simp [lv]; omega, by simp [c4, hr']⟩
  obtain ⟨bg5, ws, hb5, hw, wl0, wl1, s5⟩ := spans
  obtain ⟨r6, bg6, hb6, p6, q6, c6⟩ := thr T hb5 3 (by decide) (by decide)
  have base : ∀ e ∈ ls, ∃ z : Int, 1 ≤ z ∧ z ≤ u ∧ e = (0, z, 1) := fun e he => by
    rw [← hls] at he
    obtain ⟨z, hz, rfl⟩ := List.mem_map.mp he
    exact ⟨z, (zm z hz).1, (zm z hz).2, rfl⟩
  have links : ∃ (bg7 : D) (ms : List E3), Bag bg7 ∧ (ms.map fun e => (e.1, e.2.1)).Nodup ∧ (∀ e ∈ ms, (∃ z : Int, 1 ≤ z ∧ z ≤ u ∧ e = (0, z, 1)) ∨ e = (u + 1, 0, 0) ∨ e = (u + 1, u, 0)) ∧ ex 1000 (.ite (.prim (pCmpT .Eq) (.cons (.call g.f__law_throw (.cons (.var 0) (.cons (.con (.int 3)) .nil))) (.cons (.con (.int 0)) .nil))) (.cons (.drop (.mth isL mApp 3 (.cons (.mk dTup (.cons (.prim (pBin .Add) (.cons (.var 1) (.cons (.con (.int 1)) .nil))) (.cons (.prim (pBin .Mult) (.cons (.call g.f__law_throw (.cons (.var 0) (.cons (.con (.int 2)) .nil))) (.cons (.var 1) .nil))) (.cons (.con (.int 0)) .nil)))) .nil))) .nil) .nil)
      [.mt false bg5, .dat (.int u), .mt true (.lst (ws.map wD)), .mt true (.lst (ls.map eD)), b4] = .ok .nx [.mt false bg7, .dat (.int u), .mt true (.lst (ws.map wD)), .mt true (.lst (ms.map eD)), b4] := by
    have nd : (ls.map fun e => (e.1, e.2.1)).Nodup := by
      rw [← hls, List.map_map]
      unfold List.Nodup
      rw [List.pairwise_map]
      exact List.Pairwise.imp (fun {a b} (h : a ≠ b) z => h (Prod.mk.inj z).2) zn
    by_cases hr : r6 = 0
    · subst hr
      obtain ⟨r7, bg7, hb7, p7, q7, c7⟩ := thr T hb6 2 (by decide) (by decide)
      have ml : pBin .Mult [.int r7, .int u] = some (.dat (.int (r7 * u))) := pb_mul (mul_l (by omega))
      refine ⟨bg7, ls ++ [(u + 1, r7 * u, 0)], hb7, ?_, fun e he => ?_, ?_⟩
      · rw [List.map_append, List.nodup_append]
        refine ⟨nd, by simp, fun a ha b hb2 hab => ?_⟩
        obtain ⟨e, he, rfl⟩ := List.mem_map.mp ha
        obtain ⟨z, _, _, rfl⟩ := base e he
        simp at hb2
        subst hb2
        have := (Prod.mk.inj hab).1
        simp at this
        omega
      · rcases List.mem_append.mp he with h | h
        · exact .inl (base e h)
        · rw [List.mem_singleton.mp h]
          have : r7 = 0 ∨ r7 = 1 := by omega
          rcases this with rfl | rfl
          · exact .inr (.inl (by simp))
          · exact .inr (.inr (by simp))
      · simp [c6, isL, c7, ml, dTup, show 3 ≤ LIM by decide, mApp, ll', eD]
    · have hr' : (r6 == 0) = false := by simpa using hr
      exact ⟨bg6, ls, hb6, nd, fun e he => .inl (base e he), by simp [c6, hr']⟩
  obtain ⟨bg7, ms, hb7, mn, mm, s6⟩ := links
  obtain ⟨es, pe, se, e8⟩ := sort_edges ms mn
  have hE : Edges ws.length es := by
    refine edges_perm (ls := ms) (fun e he => ?_) (fun x => if x = u + 1 then 0 else if x = 0 then 1 else 2) (fun e he => ?_) pe se
    · rcases mm e he with ⟨z, z1, z2, rfl⟩ | rfl | rfl <;> refine ⟨?_, ?_, ?_, ?_, ?_⟩ <;> simp <;> omega
    · rcases mm e he with ⟨z, z1, z2, rfl⟩ | rfl | rfl
      · have a1 : ¬ (0 : Int) = u + 1 := by omega
        have a2 : ¬ z = u + 1 := by omega
        have a3 : ¬ z = 0 := by omega
        simp [a1, a2, a3]
      · have a1 : ¬ (0 : Int) = u + 1 := by omega
        simp [a1]
      · have a2 : ¬ u = 0 := by omega
        have a3 : ¬ u = u + 1 := by omega
        simp only [a2, a3, if_false, if_true]
        decide
  refine ⟨ws, es, bg7, hb7, ⟨hw, wl1, hE⟩, ?_⟩
  have s1 : ex 1000 (.set 1 (.prim (pBin .Add) (.cons (.con (.int 2)) (.cons (.call g.f__law_throw (.cons (.var 0) (.cons (.con (.int 2)) .nil))) .nil)))) [.mt false bg, .no, .no, .no, .no] = .ok .nx [.mt false bg1, .dat (.int u), .no, .no, .no] := by
    simp [c1, store, hu]
  have s2 : ex 1000 (.par [2, 3] (.cons (.mk dLst (.cons (.mk dTup (.cons (.con (.int 0)) (.cons (.con (.int 9)) .nil))) .nil)) (.cons (.mk dLst .nil) .nil))) [.mt false bg1, .dat (.int u), .no, .no, .no] = .ok .nx [.mt false bg1, .dat (.int u), .mt true (.lst [wD (0, 9)]), .mt true (.lst []), .no] := by
    simp [dTup, dLst, show 2 ≤ LIM by decide, show 1 ≤ LIM by decide, storeA, store, wD]
  have s3 := forS (n := 1000) (g := gRng2) (as := .cons (.con (.int 1)) (.cons (.prim (pBin .Add) (.cons (.var 1) (.cons (.con (.int 1)) .nil))) .nil)) (tg := .nm 4) (b := psB g.f__law_throw) (ls := [.dat (.int 1), .dat (.int (u + 1))]) (Γ := [.mt false bg1, .dat (.int u), .mt true (.lst [wD (0, 9)]), .mt true (.lst []), .no]) (by simp) rfl rfl rg e2
  have s4 : ex 1000 (.drop (.mth isL mApp 2 (.cons (.mk dTup (.cons (.con (.int 0)) (.cons (.call g.f__law_pick (.cons (.var 0) (.cons (.mk dLst (.cons (.con (.int 0)) (.cons (.con (.int 0)) (.cons (.con (.int 1)) (.cons (.con (.int 2)) .nil))))) .nil))) .nil))) .nil))) [.mt false bg2, .dat (.int u), .mt true (.lst (vs.map wD)), .mt true (.lst (ls.map eD)), b4] = .ok .nx [.mt false bg3, .dat (.int u), .mt true (.lst ((vs ++ [(0, lg)]).map wD)), .mt true (.lst (ls.map eD)), b4] := by
    simp [isL, dLst, show 4 ≤ LIM by decide, c3, dTup, show 2 ≤ LIM by decide, mApp, vl, wD]
  have h1 : exs 1000 (tm_f__law_pushing_jobs g) [.mt false bg, .no, .no, .no, .no] = .ok (.rt (.dat (modD ws es))) [.mt false bg7, .dat (.int u), .mt true (.lst (ws.map wD)), .mt true (.lst (ms.map eD)), b4] := by
    show exs 1000 (.cons _ (.cons _ (.cons (.for gRng2 _ (.nm 4) (psB g.f__law_throw)) (.cons _ (.cons _ (.cons _ (.cons _ .nil))))))) _ = _
    rw [exs_nx s1, exs_nx s2, exs_nx s3, exs_nx s4, exs_nx s5, exs_nx s6]
    exact exs_rt (by simp [res, pTup, e8, dTup, show 2 ≤ LIM by decide, modD])
  exact (r_f__law_pushing_jobs g _).trans (runF_rt h1 rfl rfl)
end Lw

end
-- Q9
section
namespace Lw
open PySem L2 MP
theorem idx_mem {k : Int} : ∀ {ns : List Int}, k ∈ ns → idxI k ns = some (ns.idxOf k)
  | [], h => by cases h
  | x :: r, h => by
    unfold idxI
    by_cases e : x = k
    · subst e
      simp
    · rw [if_neg e, idx_mem ((List.mem_cons.mp h).resolve_left fun z => e z.symm)]
      have : (x == k) = false := by simpa using e
      simp [List.idxOf_cons, this]
theorem pIdx_mem {k : Int} {ns : List Int} (h : k ∈ ns) : pIdx [.lst (ns.map D.int), .int k] = some (.dat (.int ((ns.idxOf k : Nat) : Int))) := by
  simp [pIdx, ints?_map, idx_mem h]
def ren (ord : List Int) (e : E3) : E3 := (((ord.idxOf e.1 : Nat) : Int), ((ord.idxOf e.2.1 : Nat) : Int), e.2.2)
def fE (ord : List Int) : D → D
  | .tup [.int a, .int b, .int c] => eD (ren ord (a, b, c))
  | _ => .non
def fW (ws : List (Int × Int)) : D → D
  | .int j => wD (ws.getD j.toNat (0, 0))
  | _ => .non
theorem idx_inj {ord : List Int} {x y : Int} (hx : x ∈ ord) (hy : y ∈ ord) (h : ord.idxOf x = ord.idxOf y) : x = y := by
  have l1 := List.idxOf_lt_length_of_mem hx
  have l2 := List.idxOf_lt_length_of_mem hy
  have a := List.getElem_idxOf l1
  have b := List.getElem_idxOf l2
  rw [← a, ← b]
  simp only [h]
theorem inc_len : ∀ (l : List Int) (a m : Int), l.Pairwise (· < ·) → (∀ x ∈ l, a ≤ x ∧ x < m) → a ≤ m → (l.length : Int) ≤ m - a
  | [], a, m, _, _, h => by simp; omega
  | x :: r, a, m, s, h, ham => by
    obtain ⟨s1, s2⟩ := List.pairwise_cons.mp s
    obtain ⟨h1, h2⟩ := h x List.mem_cons_self
    have := inc_len r (x + 1) m s2 (fun y hy => ⟨by have := s1 y hy; omega, (h y (List.mem_cons_of_mem _ hy)).2⟩) (by omega)
    simp only [List.length_cons]
    omega
theorem Edges.len {n : Int} {es : List E3} (h : Edges n es) (hn : n ≤ 64) : es.length ≤ 4096 := by
  have s : (es.map fun e => e.1 * 64 + e.2.1).Pairwise (· < ·) := by
    rw [List.pairwise_map]
    refine List.Pairwise.imp_of_mem (fun {a b} ha hb (q : ltP a b) => ?_) h.srt
    obtain ⟨a1, a2, a3, a4, _⟩ := h.rng a ha
    obtain ⟨b1, b2, b3, b4, _⟩ := h.rng b hb
    rcases q with q | ⟨q1, q2⟩ <;> omega
  have := inc_len _ 0 4096 s (fun x hx => by
    obtain ⟨e, he, rfl⟩ := List.mem_map.mp hx
    obtain ⟨a1, a2, a3, a4, _⟩ := h.rng e he
    omega) (by decide)
  simp only [List.length_map] at this
  omega
def TurnOk (f : Fn) : Prop := f.io = [true, false] ∧ ∀ bg ws es, Bag bg → Mod ws es → ∃ ws' es' bg', Bag bg' ∧ Mod ws' es' ∧ f.F [bg, modD ws es] = .ok (.dat (modD ws' es')) [bg']
theorem turn_ok {g : Fs} (S : ShufOk g.f__law_shuffled) : TurnOk (step g).f__law_turned := by
  refine ⟨rfl, fun bg ws es hb M => ?_⟩
  obtain ⟨mw, mf, me⟩ := M
  obtain ⟨ys, bg1, hb1, p1, e1⟩ := S.2 bg (rngD 0 (ws.length : Int)) hb (by rw [rngD_len]; omega)
  rw [rngD_upto] at p1
  obtain ⟨ord, p, rfl⟩ := perm_ints p1
  have nd : ord.Nodup := p.nodup_iff.mpr (upto_nodup _)
  have ol : ord.length = ws.length := by rw [p.length_eq, upto_len]
  have mem : ∀ x : Int, x ∈ ord ↔ 0 ≤ x ∧ x < ws.length := fun x => by rw [p.mem_iff, upto_mem]
  have em : ∀ e ∈ es, e.1 ∈ ord ∧ e.2.1 ∈ ord := fun e he => by
    obtain ⟨a, b, c, d, _⟩ := me.rng e he
    exact ⟨(mem _).mpr ⟨a, b⟩, (mem _).mpr ⟨c, d⟩⟩
  have esl : es.length ≤ LIM := Nat.le_trans (me.len (by omega)) (by decide)
  have nds : ((es.map (ren ord)).map fun e => (e.1, e.2.1)).Nodup := by
    rw [List.map_map]
    unfold List.Nodup
    rw [List.pairwise_map]
    refine List.Pairwise.imp_of_mem (fun {a b} ha hb2 (h : ltP a b) z => ?_) me.srt
    have z1 : ord.idxOf a.1 = ord.idxOf b.1 := by have := (Prod.mk.inj z).1; simp only [ren] at this; omega
    have z2 : ord.idxOf a.2.1 = ord.idxOf b.2.1 := by have := (Prod.mk.inj z).2; simp only [ren] at this; omega
    have y1 := idx_inj (em a ha).1 (em b hb2).1 z1
    have y2 := idx_inj (em a ha).2 (em b hb2).2 z2
    rcases h with h | ⟨_, h⟩ <;> omega
  obtain ⟨es', q, srt, e3⟩ := sort_edges (es.map (ren ord)) nds
  generalize hws : (ord.map fun j => ws.getD j.toNat (0, 0)) = ws'
  have wl : ws'.length = ws.length := by rw [← hws, List.length_map, ol]
  obtain ⟨r, hr⟩ := me.acy
  have hE : Edges ws'.length es' := by
    refine edges_perm (ls := es.map (ren ord)) (fun e he => ?_) (fun x => r (ord.getD x.toNat 0)) (fun e he => ?_) q srt
    · obtain ⟨e0, h0, rfl⟩ := List.mem_map.mp he
      have l1 := List.idxOf_lt_length_of_mem (em e0 h0).1
      have l2 := List.idxOf_lt_length_of_mem (em e0 h0).2
      have := (me.rng e0 h0).2.2.2.2
      rw [wl, ← ol]
      exact ⟨by simp [ren], by simp only [ren]; omega, by simp [ren], by simp only [ren]; omega, this⟩
    · obtain ⟨e0, h0, rfl⟩ := List.mem_map.mp he
      have l1 := List.idxOf_lt_length_of_mem (em e0 h0).1
      have l2 := List.idxOf_lt_length_of_mem (em e0 h0).2
      have a := List.getElem_idxOf l1
      have b := List.getElem_idxOf l2
      have := hr e0 h0
      simpa [ren, List.getD_eq_getElem?_getD, List.getElem?_eq_getElem l1, List.getElem?_eq_getElem l2, a, b] using this
  have hW : ∀ w ∈ ws', Win w := fun w hw => by
    rw [← hws] at hw
    obtain ⟨j, hj, rfl⟩ := List.mem_map.mp hw
    obtain ⟨j0, j1⟩ := (mem j).mp hj
    have lt : j.toNat < ws.length := by omega
    rw [List.getD_eq_getElem?_getD, List.getElem?_eq_getElem lt]
    exact mw _ (List.getElem_mem lt)
  refine ⟨ws', es', bg1, hb1, ⟨hW, by omega, hE⟩, ?_⟩
  have c := fun (Γ : List Slot) (h : Γ[0]? = some (.mt false bg)) => call_io2n (b := false) S.1 h e1
  have rg : pLRg [.int (ws.length : Int)] = some (.new (.lst (rngD 0 (ws.length : Int)))) := by
    show (if -R62 ≤ (ws.length : Int) ∧ (ws.length : Int) ≤ LIM then some (Ou.new (.lst (rngD 0 (ws.length : Int)))) else none) = _
    rw [if_pos (by unfold R62 LIM; omega)]
  have s1 : ex 1000 (.unp (.cons (.nm 2) (.cons (.nm 3) .nil)) (.var 1)) [.mt false bg, .dat (modD ws es), .no, .no, .no, .no, .no, .no, .no, .no] = .ok .nx [.mt false bg, .dat (modD ws es), .dat (.tup (ws.map wD)), .dat (.tup (es.map eD)), .no, .no, .no, .no, .no, .no] := by
    simp [modD, bnd]
  have s2 : ex 1000 (.set 4 (.call g.f__law_shuffled (.cons (.var 0) (.cons (.prim pLRg (.cons (.prim pLen (.cons (.var 2) .nil)) .nil)) .nil)))) [.mt false bg, .dat (modD ws es), .dat (.tup (ws.map wD)), .dat (.tup (es.map eD)), .no, .no, .no, .no, .no, .no] = .ok .nx [.mt false bg1, .dat (modD ws es), .dat (.tup (ws.map wD)), .dat (.tup (es.map eD)), .mt true (.lst (ord.map D.int)), .no, .no, .no, .no, .no] := by
    simp [pLen, rg, c, store]
  have l3 := lcS (Γ := [.mt false bg1, .dat (modD ws es), .dat (.tup (ws.map wD)), .dat (.tup (es.map eD)), .mt true (.lst (ord.map D.int)), .no, .no, .no, .no, .no]) (g := gSeq) (as := .cons (.var 3) .nil) (ls := [.dat (.tup (es.map eD))]) (tg := .cons (.nm 6) (.cons (.nm 7) (.cons (.nm 8) .nil))) (own := [6, 7, 8]) (c := .con (.bl true)) (e := .mk dTup (.cons (.rcv isL pIdx (.var 4) (.cons (.var 6) .nil)) (.cons (.rcv isL pIdx (.var 4) (.cons (.var 7) .nil)) (.cons (.var 8) .nil))))
    (by simp) rfl rfl rfl (by rw [List.length_map]; exact esl) rfl (lc_map (f := fE ord) (Γ := [.mt false bg1, .dat (modD ws es), .dat (.tup (ws.map wD)), .dat (.tup (es.map eD)), .mt true (.lst (ord.map D.int)), .no, .no, .no, .no, .no]) fun x hx => by
      obtain ⟨e, he, rfl⟩ := List.mem_map.mp hx
      obtain ⟨m1, m2⟩ := em e he
      refine ⟨[.mt false bg1, .dat (modD ws es), .dat (.tup (ws.map wD)), .dat (.tup (es.map eD)), .mt true (.lst (ord.map D.int)), .no, .dat (.int e.1), .dat (.int e.2.1), .dat (.int e.2.2), .no], by simp [eD, bnd], by simp, ?_, rfl⟩
      simp [res, isL, pIdx_mem m1, pIdx_mem m2, dTup, show 3 ≤ LIM by decide, fE, eD, ren])
  have f3 : (es.map eD).map (fE ord) = (es.map (ren ord)).map eD := by
    rw [List.map_map, List.map_map]
    exact List.map_congr_left fun e _ => rfl
  rw [f3] at l3
  have s3 := set_new (n := 1000) (i := 5) l3 (by rw [keepG_len]; simp)
  have l4 := ev_lc (Γ := [.mt false bg1, .dat (modD ws es), .dat (.tup (ws.map wD)), .dat (.tup (es.map eD)), .mt true (.lst (ord.map D.int)), .mt true (.lst ((es.map (ren ord)).map eD)), .no, .no, .no, .no]) (Γ1 := [.mt false bg1, .dat (modD ws es), .dat (.tup (ws.map wD)), .dat (.tup (es.map eD)), .mt true (.lst (ord.map D.int)), .mt true (.lst ((es.map (ren ord)).map eD)), .no, .no, .no, .no])
    (g := gSeq) (as := .cons (.var 4) .nil) (ls := [.ref 4]) (ds := [.lst (ord.map D.int)]) (xs := ord.map D.int) (tg := .nm 9) (own := [9]) (c := .con (.bl true)) (e := .prim (orP pIx pDIx) (.cons (.var 2) (.cons (.var 9) .nil)))
    (by simp) rfl rfl (by rw [List.length_map]; unfold LIM; omega) rfl (lc_map (f := fW ws) (Γ := [.mt false bg1, .dat (modD ws es), .dat (.tup (ws.map wD)), .dat (.tup (es.map eD)), .lck true (.lst (ord.map D.int)), .mt true (.lst ((es.map (ren ord)).map eD)), .no, .no, .no, .no]) fun x hx => by
      obtain ⟨j, hj, rfl⟩ := List.mem_map.mp hx
      obtain ⟨j0, j1⟩ := (mem j).mp hj
      obtain ⟨m, rfl⟩ : ∃ m : Nat, j = (m : Int) := ⟨j.toNat, by omega⟩
      have lt : m < ws.length := by omega
      have at_ : atI (ws.map wD) (m : Int) = some (wD (ws.getD m (0, 0))) := by
        rw [at_nat (by rw [List.length_map]; exact lt)]
        simp [List.getD_eq_getElem?_getD, lt]
      refine ⟨[.mt false bg1, .dat (modD ws es), .dat (.tup (ws.map wD)), .dat (.tup (es.map eD)), .lck true (.lst (ord.map D.int)), .mt true (.lst ((es.map (ren ord)).map eD)), .no, .no, .no, .dat (.int (m : Int))], by simp [bnd], by simp, ?_, rfl⟩
      simp [at_, fW])
  have f4 : (ord.map D.int).map (fW ws) = ws'.map wD := by
    rw [← hws, List.map_map, List.map_map]
    exact List.map_congr_left fun e _ => rfl
  rw [f4] at l4
  have last : ∀ t : Tm, ev t [.mt false bg1, .dat (modD ws es), .dat (.tup (ws.map wD)), .dat (.tup (es.map eD)), .mt true (.lst (ord.map D.int)), .mt true (.lst ((es.map (ren ord)).map eD)), .no, .no, .no, .no] = .ok (.new (.lst (ws'.map wD))) [.mt false bg1, .dat (modD ws es), .dat (.tup (ws.map wD)), .dat (.tup (es.map eD)), .mt true (.lst (ord.map D.int)), .mt true (.lst ((es.map (ren ord)).map eD)), .no, .no, .no, .no] →
      ex 1000 (.ret (.mk dTup (.cons (.prim pTup (.cons t .nil)) (.cons (.prim pTup (.cons (.prim (orP pSrt pSrtT) (.cons (.var 5) .nil)) .nil)) .nil)))) [.mt false bg1, .dat (modD ws es), .dat (.tup (ws.map wD)), .dat (.tup (es.map eD)), .mt true (.lst (ord.map D.int)), .mt true (.lst ((es.map (ren ord)).map eD)), .no, .no, .no, .no] = .ok (.rt (.dat (modD ws' es'))) [.mt false bg1, .dat (modD ws es), .dat (.tup (ws.map wD)), .dat (.tup (es.map eD)), .mt true (.lst (ord.map D.int)), .mt true (.lst ((es.map (ren ord)).map eD)), .no, .no, .no, .no] := fun t ht => by
    have e3' := e3
    generalize (es.map (ren ord)).map eD = E at ht e3' ⊢
    generalize modD ws es = Mx at ht ⊢
    simp [ht, pTup, res, e3', dTup, show 2 ≤ LIM by decide, modD]
  have s4 := last _ l4
  have h1 : exs 1000 (tm_f__law_turned g) [.mt false bg, .dat (modD ws es), .no, .no, .no, .no, .no, .no, .no, .no] = .ok (.rt (.dat (modD ws' es'))) [.mt false bg1, .dat (modD ws es), .dat (.tup (ws.map wD)), .dat (.tup (es.map eD)), .mt true (.lst (ord.map D.int)), .mt true (.lst ((es.map (ren ord)).map eD)), .no, .no, .no, .no] := by
    unfold tm_f__law_turned
    rw [exs_nx s1, exs_nx s2, exs_nx s3]
    exact exs_rt s4
  exact (r_f__law_turned g _).trans (runF_rt h1 rfl rfl)
end Lw

end
-- Q10
section
namespace Lw
open PySem L2 MP
def PlanOk (f : Fn) : Prop := f.io = [true, false, false] ∧ ∀ bg (most room : Int), Bag bg → 0 ≤ most → most ≤ 12 → 0 < room → room ≤ 99 → ∃ ws es bg', Bag bg' ∧ Mod ws es ∧ f.F [bg, .int most, .int room] = .ok (.dat (modD ws es)) [bg']
theorem plan_ok {g : Fs} (T : ThrowOk g.f__law_throw) (K : PickOk g.f__law_pick) (Hl : MakeOk g.f__law_holed_jobs) (Ps : MakeOk g.f__law_pushing_jobs) (Tn : TurnOk g.f__law_turned) (Dr : DrawOk g.f__law_drawn_spans) (Lk : LinkOk g.f__law_linked) : PlanOk (step g).f__law_plan := by
  refine ⟨rfl, fun bg most room hb m0 m1 r0 r1 => ?_⟩
  obtain ⟨kd, bg1, hb1, k0, k1, c1⟩ := thr T hb 6 (by decide) (by decide)
  have s1 : ex 1000 (.set 3 (.call g.f__law_throw (.cons (.var 0) (.cons (.con (.int 6)) .nil)))) [.mt false bg, .dat (.int most), .dat (.int room), .no, .no] = .ok .nx [.mt false bg1, .dat (.int most), .dat (.int room), .dat (.int kd), .no] := by
    simp [c1, store]
  -- the same jobs with other numbers
  have made : ∀ f : Fn, MakeOk f → ∃ ws es bg', Bag bg' ∧ Mod ws es ∧ ex 1000 (.ret (.call g.f__law_turned (.cons (.var 0) (.cons (.call f (.cons (.var 0) .nil)) .nil)))) [.mt false bg1, .dat (.int most), .dat (.int room), .dat (.int kd), .no] = .ok (.rt (.dat (modD ws es))) [.mt false bg', .dat (.int most), .dat (.int room), .dat (.int kd), .no] := fun f F => by
    obtain ⟨ws, es, bg2, hb2, M, e⟩ := F.2 bg1 hb1
    obtain ⟨ws', es', bg3, hb3, M', e'⟩ := Tn.2 bg2 ws es hb2 M
    refine ⟨ws', es', bg3, hb3, M', ?_⟩
    have c2 := call_io1 (i := 0) (b := false) (Γ := [.mt false bg1, .dat (.int most), .dat (.int room), .dat (.int kd), .no]) F.1 rfl e
    have c3 := call_io2 (i := 0) (b := false) (Γ := [.mt false bg2, .dat (.int most), .dat (.int room), .dat (.int kd), .no]) Tn.1 rfl e'
    simp [c2, c3]
  by_cases h0 : kd = 0
  · subst h0
    obtain ⟨ws, es, bg2, hb2, M, e⟩ := made _ Hl
    refine ⟨ws, es, bg2, hb2, M, ?_⟩
    have h1 : exs 1000 (tm_f__law_plan g) [.mt false bg, .dat (.int most), .dat (.int room), .no, .no] = .ok (.rt (.dat (modD ws es))) [.mt false bg2, .dat (.int most), .dat (.int room), .dat (.int 0), .no] := by
      unfold tm_f__law_plan
      rw [exs_nx s1]
      exact exs_rt ((ite_t (by simp)).trans (exs_rt e))
    exact (r_f__law_plan g _).trans (runF_rt h1 rfl rfl)
  · have k' : (kd == 0) = false := by simpa using h0
    by_cases h3 : kd < 3
    · have d3 : decide (kd < 3) = true := decide_eq_true h3
      obtain ⟨ws, es, bg2, hb2, M, e⟩ := made _ Ps
      refine ⟨ws, es, bg2, hb2, M, ?_⟩
      have h1 : exs 1000 (tm_f__law_plan g) [.mt false bg, .dat (.int most), .dat (.int room), .no, .no] = .ok (.rt (.dat (modD ws es))) [.mt false bg2, .dat (.int most), .dat (.int room), .dat (.int kd), .no] := by
        unfold tm_f__law_plan
        rw [exs_nx s1, exs_nx (Γ1 := [.mt false bg1, .dat (.int most), .dat (.int room), .dat (.int kd), .no]) ((ite_f (by simp [k'])).trans exs_nil)]
        exact exs_rt ((ite_t (by simp [d3])).trans (exs_rt e))
      exact (r_f__law_plan g _).trans (runF_rt h1 rfl rfl)
    · have d3 : decide (kd < 3) = false := decide_eq_false h3
      obtain ⟨sz, bg2, hb2, z0, z1, c2⟩ := thr T hb1 (most + 1) (by omega) (by omega)
      obtain ⟨n, rfl⟩ : ∃ n : Nat, sz = (n : Int) := ⟨sz.toNat, by omega⟩
      obtain ⟨ws, bg3, hb3, wl, hw, e3⟩ := Dr.2 bg2 n room hb2 (by omega) r0 r1
      obtain ⟨d, bg4, hb4, hd, c4⟩ := pck K hb3 [.int 1, .int 2, .int 2, .int 3, .int 4, .int 9] (by simp) (by simp)
      have hd' : ∃ of : Int, d = .int of ∧ 0 < of ∧ of < 1000 := by
        simp only [List.mem_cons, List.not_mem_nil, or_false] at hd
        rcases hd with rfl | rfl | rfl | rfl | rfl | rfl <;> exact ⟨_, rfl, by omega⟩
      obtain ⟨of, rfl, o0, o1⟩ := hd'
      obtain ⟨es, bg5, hb5, hE, e5⟩ := Lk.2 bg4 n of hb4 (by omega) o0 o1
      refine ⟨ws, es, bg5, hb5, ⟨hw, by omega, by rw [wl]; exact hE⟩, ?_⟩
      have c3 := call_io3 (i := 0) (b := false) (Γ := [.mt false bg2, .dat (.int most), .dat (.int room), .dat (.int kd), .dat (.int n)]) Dr.1 rfl e3
      have c5 := call_io3 (i := 0) (b := false) (Γ := [.mt false bg4, .dat (.int most), .dat (.int room), .dat (.int kd), .dat (.int n)]) Lk.1 rfl e5
      have h1 : exs 1000 (tm_f__law_plan g) [.mt false bg, .dat (.int most), .dat (.int room), .no, .no] = .ok (.rt (.dat (modD ws es))) [.mt false bg5, .dat (.int most), .dat (.int room), .dat (.int kd), .dat (.int n)] := by
        unfold tm_f__law_plan
        rw [exs_nx s1, exs_nx (Γ1 := [.mt false bg1, .dat (.int most), .dat (.int room), .dat (.int kd), .no]) ((ite_f (by simp [k'])).trans exs_nil), exs_nx (Γ1 := [.mt false bg1, .dat (.int most), .dat (.int room), .dat (.int kd), .no]) ((ite_f (by simp [d3])).trans exs_nil),
          exs_nx (Γ1 := [.mt false bg2, .dat (.int most), .dat (.int room), .dat (.int kd), .dat (.int n)]) (by simp [c2, store])]
        exact exs_rt (by simp [c3, dLst, show 6 ≤ LIM by decide, c4, c5, dTup, show 2 ≤ LIM by decide, modD])
      exact (r_f__law_plan g _).trans (runF_rt h1 rfl rfl)
end Lw

end
-- Q11
section
namespace Lw
open PySem L2 MP
def IntgOk (f : Fn) : Prop := f.io = [false] ∧ ∀ i : Int, f.F [.int i] = .ok (.dat (.bl true)) []
theorem intg_ok (g : Fs) : IntgOk (step g).f_is_integer := by
  refine ⟨rfl, fun i => ?_⟩
  have h1 : exs 1000 (tm_f_is_integer g) [.dat (.int i)] = .ok (.rt (.dat (.bl true))) [.dat (.int i)] := by
    unfold tm_f_is_integer
    simp [show pIsi "int" [.int i] = some (.dat (.bl true)) from rfl, show pIsi "bool" [.int i] = some (.dat (.bl false)) from rfl]
  exact (r_f_is_integer g _).trans (runF_rt h1 rfl rfl)
def BetwOk (f : Fn) : Prop := f.io = [false, false, false] ∧ ∀ v lo hi : Int, f.F [.int v, .int lo, .int hi] = .ok (.dat (.bl (decide (lo ≤ v) && decide (v ≤ hi)))) []
theorem betw_ok {g : Fs} (I : IntgOk g.f_is_integer) : BetwOk (step g).f_is_between := by
  refine ⟨rfl, fun v lo hi => ?_⟩
  have c := fun Γ => call_d1 (Γ := Γ) I.1 (I.2 v)
  have h1 : exs 1000 (tm_f_is_between g) [.dat (.int v), .dat (.int lo), .dat (.int hi)] = .ok (.rt (.dat (.bl (decide (lo ≤ v) && decide (v ≤ hi))))) [.dat (.int v), .dat (.int lo), .dat (.int hi)] := by
    unfold tm_f_is_between
    cases h : decide (lo ≤ v) <;> simp [c, h, show ∀ i, MP.isNon (.int i) = false from fun _ => rfl]
  exact (r_f_is_between g _).trans (runF_rt h1 rfl rfl)
def WindOk (f : Fn) : Prop := f.io = [false] ∧ ∀ w, Win w → f.F [wD w] = .ok (.dat (.bl true)) []
theorem wind_ok {g : Fs} (B : BetwOk g.f_is_between) : WindOk (step g).f_is_window := by
  refine ⟨rfl, fun w hw => ?_⟩
  obtain ⟨a, b⟩ := w
  obtain ⟨h1, h2, h3, h4⟩ := hw
  have c1 := fun Γ => call_d3 (Γ := Γ) B.1 (B.2 a 0 100)
  have c2 := fun Γ => call_d3 (Γ := Γ) B.1 (B.2 b 0 99)
  have d1 : (decide (0 ≤ a) && decide (a ≤ 100)) = true := by simp; exact ⟨h1, h2⟩
  have d2 : (decide (0 ≤ b) && decide (b ≤ 99)) = true := by simp; exact ⟨h3, h4⟩
  rw [d1] at c1
  rw [d2] at c2
  have e : exs 1000 (tm_f_is_window g) [.dat (wD (a, b))] = .ok (.rt (.dat (.bl true))) [.dat (wD (a, b))] := by
    unfold tm_f_is_window
    simp [wD, show ∀ xs, pIsi "tuple" [.tup xs] = some (.dat (.bl true)) from fun _ => rfl, pLen, c1, c2]
  exact (r_f_is_window g _).trans (runF_rt e rfl rfl)
def EdgeOk (f : Fn) : Prop := f.io = [false, false] ∧ ∀ (n : Int) (e : E3), 0 ≤ e.1 → e.1 < n → 0 ≤ e.2.1 → e.2.1 < n → e.1 ≠ e.2.1 → (e.2.2 = 0 ∨ e.2.2 = 1) → f.F [.int n, eD e] = .ok (.dat (.bl true)) []
theorem edge_ok {g : Fs} (I : IntgOk g.f_is_integer) : EdgeOk (step g).f_is_edge := by
  refine ⟨rfl, fun n e a1 a2 b1 b2 ne hg => ?_⟩
  obtain ⟨a, b, c⟩ := e
  dsimp only at a1 a2 b1 b2 ne hg
  have c1 := fun (i : Int) Γ => call_d1 (Γ := Γ) I.1 (I.2 i)
  have lc := lc_one_map (Γ := [.dat (.int n), .dat (eD (a, b, c)), .no, .no, .no, .no]) (g := gSeq) (as := .cons (.var 1) .nil) (j := 2) (e := .call g.f_is_integer (.cons (.var 2) .nil)) (ls := [.dat (eD (a, b, c))]) (f := fun _ => D.bl true) (by simp) rfl rfl rfl (by show 3 ≤ LIM; decide) rfl (fun x hx => by
    simp only [List.mem_cons, List.not_mem_nil, or_false] at hx
    rcases hx with rfl | rfl | rfl <;> simp [c1])
  have first : ∀ t : Tm, ev t [.dat (.int n), .dat (eD (a, b, c)), .no, .no, .no, .no] = .ok (.new (.lst [.bl true, .bl true, .bl true])) [.dat (.int n), .dat (eD (a, b, c)), .no, .no, .no, .no] →
      ev (.or (.not (.prim pTru (.cons (.prim (pIsi "tuple") (.cons (.var 1) .nil)) .nil))) (.or (.prim (pCmpT .NotEq) (.cons (.prim pLen (.cons (.var 1) .nil)) (.cons (.con (.int 3)) .nil))) (.not (.prim pTru (.cons (.prim pAll (.cons t .nil)) .nil))))) [.dat (.int n), .dat (eD (a, b, c)), .no, .no, .no, .no] = .ok (.dat (.bl false)) [.dat (.int n), .dat (eD (a, b, c)), .no, .no, .no, .no] := fun t ht => by
    unfold eD at ht ⊢
    simp [show ∀ xs, pIsi "tuple" [.tup xs] = some (.dat (.bl true)) from fun _ => rfl, pLen, ht, show pAll [.lst [.bl true, .bl true, .bl true]] = some (.dat (.bl true)) from rfl]
  have s1 := first _ lc
  have inn : pCmpT .In [.int c, .tup [.int 0, .int 1]] = some (.dat (.bl true)) := by
    rcases hg with rfl | rfl <;> rfl
  have h1 : exs 1000 (tm_f_is_edge g) [.dat (.int n), .dat (eD (a, b, c)), .no, .no, .no, .no] = .ok (.rt (.dat (.bl true))) [.dat (.int n), .dat (eD (a, b, c)), .no, .dat (.int a), .dat (.int b), .dat (.int c)] := by
    unfold tm_f_is_edge
    rw [exs_nx ((ite_f s1).trans exs_nil), exs_nx (Γ1 := [.dat (.int n), .dat (eD (a, b, c)), .no, .dat (.int a), .dat (.int b), .dat (.int c)]) (by simp [eD, bnd])]
    have n1 : (a == b) = false := by simpa using ne
    exact exs_rt (by simp [a1, a2, b1, b2, n1, dTup, show 2 ≤ LIM by decide, inn])
  exact (r_f_is_edge g _).trans (runF_rt h1 rfl rfl)
end Lw

end
-- Q12
section
namespace Lw
open PySem L2 MP
def kP (e : E3) : D := .tup [.int e.1, .int e.2.1]
def vP (e : E3) : D := .int e.2.2
def gapD (es : List E3) : D := .dct (es.map kP) (es.map vP)
theorem kEq_kP (a b : E3) : kEq (kP a) (kP b) = decide (a.1 = b.1 ∧ a.2.1 = b.2.1) := by
  simp only [kEq, kP, dKey, k1s, k1, Option.map_some]
  apply Bool.eq_iff_iff.mpr
  simp
theorem ask_kP (es : List E3) (e : E3) : askD (es.map kP) (kP e) = true := by
  have h : (es.map kP).all isTupB = true := by
    rw [List.all_map]
    exact List.all_eq_true.mpr fun _ _ => rfl
  simp [askD, h, kP, tkey, k1s, k1]
theorem ltP_ne {a b : E3} (h : ltP a b) : ¬ (a.1 = b.1 ∧ a.2.1 = b.2.1) := by
  rcases h with h | h <;> omega
theorem put_new {es : List E3} {e : E3} (h : ∀ a ∈ es, ltP a e) (hl : es.length < LIM) : orT stL stDc (gapD es) (kP e) (vP e) = some (gapD (es ++ [e])) := by
  have na : ((es.map kP).any fun x => kEq x (kP e)) = false := by
    rw [List.any_map]
    refine List.any_eq_false.mpr fun a ha => ?_
    simp only [Function.comp, kEq_kP, decide_eq_true_eq]
    exact ltP_ne (h a ha)
  show stDc (gapD es) (kP e) (vP e) = _
  unfold gapD
  simp only [stDc, List.length_map, ask_kP, hl, and_self, if_true, putD, na, Bool.false_eq_true, if_false, List.map_append, List.map_cons, List.map_nil]
theorem sorted_self {es : List E3} (s : es.Pairwise ltP) : orP pSrt pSrtT [.lst (es.map eD)] = some (.new (.lst (es.map eD))) := by
  cases es with
  | nil => rfl
  | cons a r =>
    have srt : ((a :: r).map l3).Pairwise lxLe := by
      rw [List.pairwise_map]
      refine s.imp fun {x y} h => ?_
      obtain ⟨x1, x2, x3⟩ := x
      obtain ⟨y1, y2, y3⟩ := y
      simp only [ltP] at h
      simp only [lxLe, l3, HT.lexLt_cons]
      rcases h with h | ⟨h, h'⟩
      · rw [if_neg (by omega)]; simp; omega
      · rw [if_pos h.symm, if_neg (by omega)]; simp; omega
    have e0 := isortL_uniq (List.Perm.refl _) srt
    have na : (((a :: r).map l3).all fun ns => !ns.isEmpty) = true := by
      rw [List.all_map]
      exact List.all_eq_true.mpr fun x _ => rfl
    have e2 : pSrtT [.lst ((a :: r).map eD)] = some (.new (.lst ((a :: r).map eD))) := by
      rw [eD_tD]
      simp only [pSrtT, tups?_map, na, if_true]
      rw [← e0]
    unfold orP
    rw [show pSrt [.lst ((a :: r).map eD)] = none from rfl]
    exact e2
def gpB : Ss := .cons (.sub (orT stL stDc) 1 (.mk dTup (.cons (.var 2) (.cons (.var 3) .nil))) (.var 4)) .nil
theorem gap_loop (E : D) : ∀ (rest pre : List E3) (a2 a3 a4 : Slot), (pre ++ rest).Pairwise ltP → pre.length + rest.length ≤ 4096 → ∃ b2 b3 b4, forLoop (exs 1000 gpB) (.cons (.nm 2) (.cons (.nm 3) (.cons (.nm 4) .nil))) (rest.map eD) [.dat E, .mt true (gapD pre), a2, a3, a4] = .ok .nx [.dat E, .mt true (gapD (pre ++ rest)), b2, b3, b4]
  | [], pre, a2, a3, a4, _, _ => ⟨a2, a3, a4, by simp [forLoop]⟩
  | e :: rest, pre, a2, a3, a4, s, hl => by
    have s' : (pre ++ [e] ++ rest).Pairwise ltP := by simpa using s
    obtain ⟨b2, b3, b4, e2⟩ := gap_loop E rest (pre ++ [e]) (.dat (.int e.1)) (.dat (.int e.2.1)) (.dat (.int e.2.2)) s' (by simp at hl ⊢; omega)
    refine ⟨b2, b3, b4, ?_⟩
    have lt : ∀ a ∈ pre, ltP a e := fun a ha => (List.pairwise_append.mp s).2.2 a ha e List.mem_cons_self
    have pn := put_new lt (by simp at hl; unfold LIM; omega)
    have body : exs 1000 gpB [.dat E, .mt true (gapD pre), .dat (.int e.1), .dat (.int e.2.1), .dat (.int e.2.2)] = .ok .nx [.dat E, .mt true (gapD (pre ++ [e])), .dat (.int e.1), .dat (.int e.2.1), .dat (.int e.2.2)] := by
      have pn' : orT stL stDc (gapD pre) (.tup [.int e.1, .int e.2.1]) (.int e.2.2) = some (gapD (pre ++ [e])) := pn
      simp [gpB, isMt, dTup, show 2 ≤ LIM by decide, pn']
    rw [List.map_cons]
    unfold forLoop
    simp only [eD, bnd, List.length_cons, List.length_nil, List.length_set, show (2 : Nat) < 0 + 1 + 1 + 1 + 1 + 1 by decide, show (3 : Nat) < 0 + 1 + 1 + 1 + 1 + 1 by decide, show (4 : Nat) < 0 + 1 + 1 + 1 + 1 + 1 by decide, if_true, List.set_cons_succ, List.set_cons_zero]
    rw [body]
    simp only [bind_ok]
    simp only [eD, List.append_assoc, List.singleton_append] at e2
    exact e2
def GapsOk (f : Fn) : Prop := f.io = [false] ∧ ∀ (n : Int) (es : List E3), Edges n es → n ≤ 64 → f.F [.tup (es.map eD)] = .ok (.new (gapD es)) []
theorem gaps_ok (g : Fs) : GapsOk (step g).f_gaps_of := by
  refine ⟨rfl, fun n es hE hn => ?_⟩
  obtain ⟨b2, b3, b4, e⟩ := gap_loop (.tup (es.map eD)) es [] .no .no .no (by simpa using hE.srt) (by have := hE.len hn; simpa using this)
  have s2 := forS (n := 1000) (g := gSeq) (as := .cons (.prim (orP pSrt pSrtT) (.cons (.prim (orP pLst pLstD) (.cons (.var 0) .nil)) .nil)) .nil) (tg := .cons (.nm 2) (.cons (.nm 3) (.cons (.nm 4) .nil))) (b := gpB) (ls := [.new (.lst (es.map eD))]) (Γ := [.dat (.tup (es.map eD)), .mt true (gapD []), .no, .no, .no])
    (by simp [show ∀ xs, orP pLst pLstD [.tup xs] = some (.new (.lst xs)) from fun _ => rfl, sorted_self hE.srt]) rfl rfl rfl e
  have h1 : exs 1000 (tm_f_gaps_of g) [.dat (.tup (es.map eD)), .no, .no, .no, .no] = .ok (.rt (.new (gapD es))) [.dat (.tup (es.map eD)), .no, b2, b3, b4] := by
    show exs 1000 (.cons _ (.cons (.for gSeq _ _ gpB) (.cons _ .nil))) _ = _
    rw [exs_nx (Γ1 := [.dat (.tup (es.map eD)), .mt true (gapD []), .no, .no, .no]) (by simp [dDct, store, gapD]), exs_nx s2]
    exact exs_rt (by simp [retV])
  exact (r_f_gaps_of g _).trans (runF_rt h1 rfl rfl)
def mvF : D → D
  | .tup [.tup [.int a, .int b], .int c] => eD (a, b, c)
  | _ => .non
def MovOk (f : Fn) : Prop := f.io = [false, false] ∧ ∀ (es : List E3), es.length ≤ 4096 → f.F [gapD es, .int 0] = .ok (.dat (.tup (es.map eD))) []
theorem mov_ok (g : Fs) : MovOk (step g).f_moved_edges := by
  refine ⟨rfl, fun es hl => ?_⟩
  have zw : List.zipWith (fun k v => D.tup [k, v]) (es.map kP) (es.map vP) = es.map fun e => D.tup [kP e, vP e] := by
    rw [List.zipWith_map, List.zipWith_self]
  have it : gItems [gapD es] = some (es.map fun e => D.tup [kP e, vP e]) := by
    unfold gapD
    simp only [gItems]
    rw [zw]
  have l := lcS (Γ := [.dat (gapD es), .dat (.int 0), .no, .no, .no]) (g := gItems) (as := .cons (.ess (.var 0)) .nil) (ls := [.dat (gapD es)]) (tg := .cons (.cons (.nm 2) (.cons (.nm 3) .nil)) (.cons (.nm 4) .nil)) (own := [2, 3, 4]) (c := .con (.bl true)) (e := .mk dTup (.cons (.prim (pBin .Add) (.cons (.var 2) (.cons (.var 1) .nil))) (.cons (.prim (pBin .Add) (.cons (.var 3) (.cons (.var 1) .nil))) (.cons (.var 4) .nil))))
    (by simp) rfl rfl it (by rw [List.length_map]; exact Nat.le_trans hl (by decide)) rfl (lc_map (f := mvF) (Γ := [.dat (gapD es), .dat (.int 0), .no, .no, .no]) fun x hx => by
      obtain ⟨e, he, rfl⟩ := List.mem_map.mp hx
      refine ⟨[.dat (gapD es), .dat (.int 0), .dat (.int e.1), .dat (.int e.2.1), .dat (.int e.2.2)], by simp [kP, vP, bnd], by simp, ?_, rfl⟩
      simp [dTup, show 3 ≤ LIM by decide, mvF, kP, vP, eD])
  have f : (es.map fun e => D.tup [kP e, vP e]).map mvF = es.map eD := by
    rw [List.map_map]
    exact List.map_congr_left fun e _ => rfl
  rw [f] at l
  have h1 : exs 1000 (tm_f_moved_edges g) [.dat (gapD es), .dat (.int 0), .no, .no, .no] = .ok (.rt (.dat (.tup (es.map eD)))) [.dat (gapD es), .dat (.int 0), .no, .no, .no] := by
    unfold tm_f_moved_edges
    exact exs_rt (ret_dat (prim1 (l := .new (.lst (es.map eD))) (d := .lst (es.map eD)) (o := .dat (.tup (es.map eD))) l rfl rfl))
  exact (r_f_moved_edges g _).trans (runF_rt h1 rfl rfl)
end Lw

end
-- Q13
section
namespace Lw
open PySem L2 MP
theorem set_get_same {α : Type} {l : List α} {i : Nat} {x : α} (h : l[i]? = some x) : l.set i x = l := by
  refine List.ext_getElem? fun k => ?_
  have hlt : i < l.length := (List.getElem?_eq_some_iff.mp h).1
  by_cases q : i = k
  · subst q; rw [List.getElem?_set_self hlt, h]
  · rw [List.getElem?_set_ne q]
/-- a comprehension with one name over a name -/
theorem lc_var {Γ : List Slot} {i j : Nat} {c e : Tm} {xs : List D} {s : Slot} {p : D → Bool} {f : D → D} (hi : Γ[i]? = some s) (hs : s = .dat (.lst xs) ∨ s = .mt true (.lst xs) ∨ s = .lck true (.lst xs)) (hij : i ≠ j) (h4 : xs.length ≤ LIM) (hj : Γ[j]? = some .no)
    (h : ∀ s', (s' = .dat (.lst xs) ∨ s' = .lck true (.lst xs)) → ∀ x ∈ xs, ev c ((Γ.set i s').set j (.dat x)) = .ok (.dat (.bl (p x))) ((Γ.set i s').set j (.dat x)) ∧ (p x = true → ev e ((Γ.set i s').set j (.dat x)) = .ok (.dat (f x)) ((Γ.set i s').set j (.dat x)))) :
    ev (.lc gSeq (.cons (.var i) .nil) (.nm j) [j] c e) Γ = .ok (.new (.lst ((xs.filter p).map f))) Γ := by
  have hlt : j < Γ.length := (List.getElem?_eq_some_iff.mp hj).1
  have nm : noMut [j] Γ = true := by simp [noMut, hj]
  have run : ∀ s', (s' = .dat (.lst xs) ∨ s' = .lck true (.lst xs)) → lcLoop (ev c) (ev e) (.nm j) [j] xs [] ((Γ.set i s').set j .no) = .ok ((xs.filter p).map f) ((Γ.set i s').set j .no) := fun s' hs' => by
    have := lc_pure (ec := ev c) (ee := ev e) (tg := .nm j) (own := [j]) (c := p) (f := f) (Γ := (Γ.set i s').set j .no) (xs := xs) (acc := []) fun x hx => ⟨(Γ.set i s').set j (.dat x), by simp [bnd, hlt], (h s' hs' x hx).1, (h s' hs' x hx).2, by simp [wipeG]⟩
    simpa using this
  have nj : ∀ s', (Γ.set i s').set j .no = Γ.set i s' := fun s' => set_get_same (by rw [List.getElem?_set_ne hij]; exact hj)
  rcases hs with rfl | rfl | rfl
  · have e1 : evA (.cons (.var i) .nil) Γ = .ok [.dat (.lst xs)] Γ := by simp [hi]
    have r := run _ (.inl rfl)
    rw [nj, set_get_same hi] at r
    have q := lcS (g := gSeq) (tg := .nm j) (own := [j]) (c := c) (e := e) (ds := [.lst xs]) (xs := xs) (acc := (xs.filter p).map f) (Γ2 := Γ) e1 rfl rfl rfl h4 nm (by rw [show wipeG [j] Γ = Γ.set j .no from rfl, set_get_same hj]; exact r)
    rw [q]
    show Rs.ok _ (Γ.set j (Γ[j]?.getD .no)) = _
    rw [hj]
    exact congrArg _ (set_get_same hj)
  · have e1 : evA (.cons (.var i) .nil) Γ = .ok [.ref i] Γ := by simp [hi]
    have lk : locks Γ [.ref i] = [i] := by simp [locks, hi]
    have r := run _ (.inr rfl)
    rw [nj] at r
    have l1 : lockA [i] Γ = Γ.set i (.lck true (.lst xs)) := by simp [lockA, lock1, hi]
    have hil : i < Γ.length := (List.getElem?_eq_some_iff.mp hi).1
    have q := ev_lc (Γ := Γ) (Γ1 := Γ) (g := gSeq) (as := .cons (.var i) .nil) (tg := .nm j) (own := [j]) (c := c) (e := e) (ls := [.ref i]) (ds := [.lst xs]) (xs := xs) (acc := (xs.filter p).map f) (Γ2 := Γ.set i (.lck true (.lst xs))) e1 (by simp [res, hi]) rfl h4 nm (by rw [lk, l1, show wipeG [j] (Γ.set i (.lck true (.lst xs))) = (Γ.set i (.lck true (.lst xs))).set j .no from rfl, nj]; exact r)
    rw [q, lk]
    have u1 : unlockA [i] (Γ.set i (.lck true (.lst xs))) = Γ := by
      simp only [unlockA, unlock1, List.getElem?_set_self hil, List.set_set]
      exact set_get_same hi
    rw [u1]
    show Rs.ok _ (Γ.set j (Γ[j]?.getD .no)) = _
    rw [hj]
    exact congrArg _ (set_get_same hj)
  · have e1 : evA (.cons (.var i) .nil) Γ = .ok [.ref i] Γ := by simp [hi]
    have lk : locks Γ [.ref i] = [] := by simp [locks, hi]
    have r := run _ (.inr rfl)
    rw [nj, set_get_same hi] at r
    have q := lcS (Γ := Γ) (g := gSeq) (as := .cons (.var i) .nil) (tg := .nm j) (own := [j]) (c := c) (e := e) (ls := [.ref i]) (ds := [.lst xs]) (xs := xs) (acc := (xs.filter p).map f) (Γ2 := Γ) e1 lk (by simp [res, hi]) rfl h4 nm (by rw [show wipeG [j] Γ = Γ.set j .no from rfl, set_get_same hj]; exact r)
    rw [q]
    show Rs.ok _ (Γ.set j (Γ[j]?.getD .no)) = _
    rw [hj]
    exact congrArg _ (set_get_same hj)
def hasE (es : List E3) (a b : Int) : Bool := (valD (es.map kP) (es.map vP) (kP (a, b, 0))).isSome
theorem hasE_iff {a b : Int} : ∀ {es : List E3}, hasE es a b = true ↔ ∃ e ∈ es, e.1 = a ∧ e.2.1 = b
  | [] => by simp [hasE, valD]
  | e :: es => by
    have ih := hasE_iff (a := a) (b := b) (es := es)
    unfold hasE at ih ⊢
    simp only [List.map_cons, valD, kEq_kP]
    by_cases h : e.1 = a ∧ e.2.1 = b
    · simp [h]
    · rw [if_neg (by simpa using h), ih]
      constructor
      · rintro ⟨x, hx, q⟩; exact ⟨x, List.mem_cons_of_mem _ hx, q⟩
      · rintro ⟨x, hx, q⟩
        rcases List.mem_cons.mp hx with z | z
        · subst z; exact absurd q h
        · exact ⟨x, z, q⟩
theorem in_gap (es : List E3) (a b : Int) : pCmpT .In [.tup [.int a, .int b], gapD es] = some (.dat (.bl (hasE es a b))) := by
  have h0 : pCmp .In [.tup [.int a, .int b], gapD es] = none := rfl
  have h1 : pDIn false [.tup [.int a, .int b], gapD es] = some (.dat (.bl (hasE es a b))) := by
    have h : askD (es.map kP) (.tup [.int a, .int b]) = true := ask_kP es (a, b, 0)
    unfold gapD
    simp only [pDIn]
    rw [if_pos h]
    rfl
  unfold pCmpT orP
  dsimp only
  rw [h0]
  exact h1
end Lw

end
-- Q14
section
namespace Lw
open PySem L2 MP
theorem toPy_ints : ∀ L : List Int, toPyA (L.map D.int) = some (L.map PyData.int) ∧ PyData.canLayAll0 (L.map PyData.int) = true ∧ PyData.depthAll (L.map PyData.int) = 0
  | [] => ⟨rfl, rfl, rfl⟩
  | x :: L => by
    obtain ⟨h1, h2, h3⟩ := toPy_ints L
    exact ⟨by simp [toPyA, toPy, h1], by simp [PyData.canLayAll0, PyData.canLay0, h2], by simp [PyData.depthAll, PyData.depth, h3]⟩
theorem shp_ints (L : List Int) : shp (.lst (L.map D.int)) = some (.list (L.map PyData.int)) := by
  obtain ⟨h1, h2, h3⟩ := toPy_ints L
  simp [shp, toPy, h1, SeqAt.shaped, PyData.canLay0, h2, PyData.depth, h3]
theorem ne_nil (L : List Int) : pCmpT .NotEq [.lst (L.map D.int), .lst []] = some (.dat (.bl (!L.isEmpty))) := by
  have h0 := shp_ints L
  have h1 : shp (.lst []) = some (.list []) := shp_ints []
  have : pCmp .NotEq [.lst (L.map D.int), .lst []] = some (.dat (.bl (!L.isEmpty))) := by
    simp only [pCmp, pEq, h0, h1, if_true]
    cases L <;> rfl
  unfold pCmpT orP
  dsimp only
  rw [this]
theorem eq_nil (L : List Int) : pCmpT .Eq [.lst (L.map D.int), .lst []] = some (.dat (.bl L.isEmpty)) := by
  have := pEq_nil (L.map D.int)
  unfold pCmpT orP
  dsimp only
  rw [this]
  simp
theorem notIn_ints (j : Int) (L : List Int) : pCmpT .NotIn [.int j, .lst (L.map D.int)] = some (.dat (.bl (!decide (j ∈ L)))) := by
  have h0 := shp_ints L
  have an : ((L.map PyData.int).any fun z => PyData.eqv z (.int j)) = decide (j ∈ L) := by
    rw [List.any_map]
    apply Bool.eq_iff_iff.mpr
    rw [List.any_eq_true, decide_eq_true_eq]
    constructor
    · rintro ⟨x, hx, h⟩
      have : x = j := by simpa [PyData.eqv] using h
      exact this ▸ hx
    · intro h
      exact ⟨j, h, by simp [PyData.eqv]⟩
  have : pCmp .NotIn [.int j, .lst (L.map D.int)] = some (.dat (.bl (!decide (j ∈ L)))) := by
    simp only [pCmp, pIn, shp_int, h0, an, if_true]
  unfold pCmpT orP
  dsimp only
  rw [this]
def frst (es : List E3) (L : List Int) : List Int := L.filter fun j => !(L.any fun o => hasE es o j)
def lft (es : List E3) (L : List Int) : List Int := L.filter fun j => !decide (j ∈ frst es L)
def Sl (s : Slot) (d : D) : Prop := s = .dat d ∨ s = .mt true d
def iB (p : Int → Bool) : D → Bool
  | .int i => p i
  | _ => false
theorem filt_ints (p : Int → Bool) (L : List Int) : ((L.map D.int).filter (iB p)).map id = (L.filter p).map D.int := by
  rw [List.map_id, List.filter_map]
  rfl
theorem bools_map (f : Int → Bool) : ∀ L : List Int, bools? (L.map fun o => D.bl (f o)) = some (L.map f)
  | [] => rfl
  | x :: L => by simp [bools?, bools_map f L]
def ooC : Tm := .not (.prim pTru (.cons (.prim pAny (.cons (.lc gSeq (.cons (.var 3) .nil) (.nm 6) [6] (.con (.bl true)) (.prim (pCmpT .In) (.cons (.mk dTup (.cons (.var 6) (.cons (.var 5) .nil))) (.cons (.var 1) .nil)))) .nil)) .nil))
theorem oo_any {n : D} {es : List E3} {s2 s3 a4 : Slot} {L : List Int} (hl : L.length ≤ 64) (j : Int) (h3 : s3 = .dat (.lst (L.map D.int)) ∨ s3 = .lck true (.lst (L.map D.int))) :
    ev ooC [.dat n, .dat (gapD es), s2, s3, a4, .dat (.int j), .no] = .ok (.dat (.bl (!(L.any fun o => hasE es o j)))) [.dat n, .dat (gapD es), s2, s3, a4, .dat (.int j), .no] := by
  have lc := lc_var (Γ := [.dat n, .dat (gapD es), s2, s3, a4, .dat (.int j), .no]) (i := 3) (j := 6) (c := .con (.bl true)) (e := .prim (pCmpT .In) (.cons (.mk dTup (.cons (.var 6) (.cons (.var 5) .nil))) (.cons (.var 1) .nil))) (xs := L.map D.int) (s := s3) (p := fun _ => true) (f := fun d => .bl (iB (fun o => hasE es o j) d)) rfl (by rcases h3 with h | h; exact .inl h; exact .inr (.inr h)) (by decide) (by rw [List.length_map]; exact Nat.le_trans hl (by decide)) rfl
    (fun s' hs' x hx => by
      obtain ⟨o, _, rfl⟩ := List.mem_map.mp hx
      refine ⟨by simp, fun _ => ?_⟩
      simp [dTup, show 2 ≤ LIM by decide, in_gap, iB])
  rw [List.filter_eq_self.mpr fun _ _ => rfl, List.map_map] at lc
  have bm := bools_map (fun o => hasE es o j) L
  have key : ∀ t : Tm, ev t [.dat n, .dat (gapD es), s2, s3, a4, .dat (.int j), .no] = .ok (.new (.lst (L.map fun o => D.bl (hasE es o j)))) [.dat n, .dat (gapD es), s2, s3, a4, .dat (.int j), .no] →
      ev (.not (.prim pTru (.cons (.prim pAny (.cons t .nil)) .nil))) [.dat n, .dat (gapD es), s2, s3, a4, .dat (.int j), .no] = .ok (.dat (.bl (!(L.any fun o => hasE es o j)))) [.dat n, .dat (gapD es), s2, s3, a4, .dat (.int j), .no] := fun t ht => by
    have pa : pAny [.lst (L.map fun o => D.bl (hasE es o j))] = some (.dat (.bl (L.any fun o => hasE es o j))) := by
      simp only [pAny, bm]
      rw [List.any_map]
      rfl
    simp [ht, pa]
  exact key _ lc
theorem oo_first {n : D} {es : List E3} {s2 s3 a4 : Slot} {L : List Int} (hl : L.length ≤ 64) (h3 : Sl s3 (.lst (L.map D.int))) :
    ev (.lc gSeq (.cons (.var 3) .nil) (.nm 5) [5] ooC (.var 5)) [.dat n, .dat (gapD es), s2, s3, a4, .no, .no] = .ok (.new (.lst ((frst es L).map D.int))) [.dat n, .dat (gapD es), s2, s3, a4, .no, .no] := by
  have lc := lc_var (Γ := [.dat n, .dat (gapD es), s2, s3, a4, .no, .no]) (i := 3) (j := 5) (c := ooC) (e := .var 5) (xs := L.map D.int) (s := s3) (p := iB fun j => !(L.any fun o => hasE es o j)) (f := id) rfl (by rcases h3 with h | h; exact .inl h; exact .inr (.inl h)) (by decide) (by rw [List.length_map]; exact Nat.le_trans hl (by decide)) rfl
    (fun s' hs' x hx => by
      obtain ⟨j, _, rfl⟩ := List.mem_map.mp hx
      refine ⟨oo_any hl j hs', fun _ => by simp⟩)
  rw [filt_ints] at lc
  exact lc
theorem oo_left {n : D} {es : List E3} {s2 s3 : Slot} {L F : List Int} (hl : L.length ≤ 64) (h3 : Sl s3 (.lst (L.map D.int))) :
    ev (.lc gSeq (.cons (.var 3) .nil) (.nm 5) [5] (.prim (pCmpT .NotIn) (.cons (.var 5) (.cons (.var 4) .nil))) (.var 5)) [.dat n, .dat (gapD es), s2, s3, .mt true (.lst (F.map D.int)), .no, .no] = .ok (.new (.lst ((L.filter fun j => !decide (j ∈ F)).map D.int))) [.dat n, .dat (gapD es), s2, s3, .mt true (.lst (F.map D.int)), .no, .no] := by
  have lc := lc_var (Γ := [.dat n, .dat (gapD es), s2, s3, .mt true (.lst (F.map D.int)), .no, .no]) (i := 3) (j := 5) (c := .prim (pCmpT .NotIn) (.cons (.var 5) (.cons (.var 4) .nil))) (e := .var 5) (xs := L.map D.int) (s := s3) (p := iB fun j => !decide (j ∈ F)) (f := id) rfl (by rcases h3 with h | h; exact .inl h; exact .inr (.inl h)) (by decide) (by rw [List.length_map]; exact Nat.le_trans hl (by decide)) rfl
    (fun s' hs' x hx => by
      obtain ⟨j, _, rfl⟩ := List.mem_map.mp hx
      exact ⟨by simp [res, notIn_ints, iB], fun _ => by simp⟩)
  rw [filt_ints] at lc
  exact lc
end Lw

end
-- Q15
section
namespace Lw
open PySem L2 MP
structure OInv (n : Int) (es : List E3) (fs L : List Int) : Prop where
  cl : ∀ e ∈ es, e.1 ∈ L → e.2.1 ∈ L
  on : ∀ A j B, fs = A ++ j :: B → ∀ e ∈ es, e.1 = j → e.2.1 ∈ B ∨ e.2.1 ∈ L
  cov : ∀ x : Int, 0 ≤ x → x < n → x ∈ fs ∨ x ∈ L
  rng : ∀ x, x ∈ fs ∨ x ∈ L → 0 ≤ x ∧ x < n
  len : (fs.length : Int) + L.length ≤ n
theorem frst_mem {es : List E3} {L : List Int} {j : Int} : j ∈ frst es L ↔ j ∈ L ∧ ∀ e ∈ es, e.2.1 = j → e.1 ∉ L := by
  unfold frst
  rw [List.mem_filter]
  simp only [Bool.not_eq_true', List.any_eq_false]
  constructor
  · rintro ⟨h1, h2⟩
    exact ⟨h1, fun e he hj hm => h2 e.1 hm (hasE_iff.mpr ⟨e, he, rfl, hj⟩)⟩
  · rintro ⟨h1, h2⟩
    refine ⟨h1, fun o ho h => ?_⟩
    obtain ⟨e, he, h3, h4⟩ := hasE_iff.mp h
    exact h2 e he h4 (h3 ▸ ho)
theorem lft_mem {es : List E3} {L : List Int} {j : Int} : j ∈ lft es L ↔ j ∈ L ∧ j ∉ frst es L := by
  unfold lft
  rw [List.mem_filter]
  simp
theorem filt_len (p : Int → Bool) : ∀ l : List Int, (l.filter p).length + (l.filter fun x => !p x).length = l.length
  | [] => rfl
  | x :: l => by
    have ih := filt_len p l
    cases h : p x
    · rw [List.filter_cons_of_neg (by rw [h]; decide), List.filter_cons_of_pos (by rw [h]; rfl)]
      simp only [List.length_cons]
      omega
    · rw [List.filter_cons_of_pos h, List.filter_cons_of_neg (by rw [h]; decide)]
      simp only [List.length_cons]
      omega
theorem lens (es : List E3) (L : List Int) : (frst es L).length + (lft es L).length = L.length := by
  have e : lft es L = L.filter fun j => !(!(L.any fun o => hasE es o j)) := by
    unfold lft
    refine List.filter_congr fun j hj => ?_
    congr 1
    unfold frst
    apply Bool.eq_iff_iff.mpr
    rw [decide_eq_true_eq, List.mem_filter]
    exact ⟨fun h => h.2, fun h => ⟨hj, h⟩⟩
  rw [e]
  unfold frst
  exact filt_len (fun j => !(L.any fun o => hasE es o j)) L
theorem min_ex (r : Int → Nat) : ∀ L : List Int, L ≠ [] → ∃ j ∈ L, ∀ o ∈ L, r j ≤ r o
  | [x], _ => ⟨x, List.mem_cons_self, fun o ho => by rw [List.mem_singleton.mp ho]; exact Nat.le_refl _⟩
  | x :: y :: l, _ => by
    obtain ⟨j, hj, h⟩ := min_ex r (y :: l) (by simp)
    by_cases q : r x ≤ r j
    · exact ⟨x, List.mem_cons_self, fun o ho => by
        rcases List.mem_cons.mp ho with z | z
        · rw [z]; exact Nat.le_refl _
        · exact Nat.le_trans q (h o z)⟩
    · exact ⟨j, List.mem_cons_of_mem _ hj, fun o ho => by
        rcases List.mem_cons.mp ho with z | z
        · rw [z]; omega
        · exact h o z⟩
theorem frst_ne {n : Int} {es : List E3} (hE : Edges n es) {L : List Int} (h : L ≠ []) : frst es L ≠ [] := by
  obtain ⟨r, hr⟩ := hE.acy
  obtain ⟨j, hj, hm⟩ := min_ex r L h
  have : j ∈ frst es L := frst_mem.mpr ⟨hj, fun e he hk hl => by
    have a := hr e he
    have b := hm _ hl
    rw [hk] at a
    omega⟩
  intro z
  rw [z] at this
  cases this
theorem OInv.next {n : Int} {es : List E3} {fs L : List Int} (I : OInv n es fs L) : OInv n es (fs ++ frst es L) (lft es L) := by
  refine ⟨fun e he h => ?_, fun A j B hs e he hj => ?_, fun x h0 h1 => ?_, fun x h => ?_, ?_⟩
  · obtain ⟨h1, h2⟩ := lft_mem.mp h
    exact lft_mem.mpr ⟨I.cl e he h1, fun z => (frst_mem.mp z).2 e he rfl h1⟩
  · rcases List.append_eq_append_iff.mp hs with ⟨C, h1, h2⟩ | ⟨C, h1, h2⟩
    · -- A = fs ++ C: j is new
      have jm : j ∈ frst es L := by rw [h2]; simp
      obtain ⟨j1, j2⟩ := frst_mem.mp jm
      have oL : e.2.1 ∈ L := I.cl e he (hj ▸ j1)
      right
      exact lft_mem.mpr ⟨oL, fun z => (frst_mem.mp z).2 e he rfl (hj ▸ j1)⟩
    · -- fs = A ++ C
      cases C with
      | nil =>
        simp only [List.nil_append] at h2
        have jm : j ∈ frst es L := by rw [← h2]; simp
        obtain ⟨j1, j2⟩ := frst_mem.mp jm
        have oL : e.2.1 ∈ L := I.cl e he (hj ▸ j1)
        right
        exact lft_mem.mpr ⟨oL, fun z => (frst_mem.mp z).2 e he rfl (hj ▸ j1)⟩
      | cons c C =>
        simp only [List.cons_append, List.cons.injEq] at h2
        obtain ⟨rfl, hB⟩ := h2
        rcases I.on A j C h1 e he hj with q | q
        · left; rw [hB]; exact List.mem_append_left _ q
        · by_cases f : e.2.1 ∈ frst es L
          · left; rw [hB]; exact List.mem_append_right _ f
          · right; exact lft_mem.mpr ⟨q, f⟩
  · rcases I.cov x h0 h1 with q | q
    · exact .inl (List.mem_append_left _ q)
    · by_cases f : x ∈ frst es L
      · exact .inl (List.mem_append_right _ f)
      · exact .inr (lft_mem.mpr ⟨q, f⟩)
  · rcases h with h | h
    · rcases List.mem_append.mp h with q | q
      · exact I.rng x (.inl q)
      · exact I.rng x (.inr (frst_mem.mp q).1)
    · exact I.rng x (.inr (lft_mem.mp h).1)
  · have := lens es L
    have := I.len
    simp only [List.length_append]
    omega
def ooW : Tm := .prim (pCmpT .NotEq) (.cons (.var 3) (.cons (.mk dLst .nil) .nil))
def ooB : Ss := .cons (.set 4 (.lc gSeq (.cons (.var 3) .nil) (.nm 5) [5] ooC (.var 5)))
   (.cons (.ite (.prim (pCmpT .Eq) (.cons (.var 4) (.cons (.mk dLst .nil) .nil))) (.cons (.ret (.con .non)) .nil) .nil)
   (.cons (.set 2 (.prim (pBin .Add) (.cons (.var 2) (.cons (.var 4) .nil))))
   (.cons (.set 3 (.lc gSeq (.cons (.var 3) .nil) (.nm 5) [5] (.prim (pCmpT .NotIn) (.cons (.var 5) (.cons (.var 4) .nil))) (.var 5))) .nil)))
theorem oo_cond {n : D} {es : List E3} {s2 s3 a4 : Slot} {L : List Int} (h3 : Sl s3 (.lst (L.map D.int))) : ev ooW [.dat n, .dat (gapD es), s2, s3, a4, .no, .no] = .ok (.dat (.bl (!L.isEmpty))) [.dat n, .dat (gapD es), s2, s3, a4, .no, .no] := by
  rcases h3 with rfl | rfl <;> simp [ooW, res, dLst, ne_nil]
theorem oo_body {n : D} {m : Int} {es : List E3} (hE : Edges m es) {s2 s3 a4 : Slot} {fs L : List Int} (ne : L ≠ []) (hl : L.length ≤ 64) (hf : fs.length ≤ 64) (h2 : Sl s2 (.lst (fs.map D.int))) (h3 : Sl s3 (.lst (L.map D.int))) :
    exs 1000 ooB [.dat n, .dat (gapD es), s2, s3, a4, .no, .no] = .ok .nx [.dat n, .dat (gapD es), .mt true (.lst ((fs ++ frst es L).map D.int)), .mt true (.lst ((lft es L).map D.int)), .mt true (.lst ((frst es L).map D.int)), .no, .no] := by
  have s1 := set_new (n := 1000) (i := 4) (oo_first (n := n) (es := es) (s2 := s2) (a4 := a4) hl h3) (by simp)
  have fe : (frst es L).isEmpty = false := by
    have := frst_ne hE ne
    cases q : frst es L with
    | nil => exact absurd q this
    | cons _ _ => rfl
  have le : (frst es L).length ≤ 64 := by have := lens es L; omega
  have s2' : ex 1000 (.ite (.prim (pCmpT .Eq) (.cons (.var 4) (.cons (.mk dLst .nil) .nil))) (.cons (.ret (.con .non)) .nil) .nil) [.dat n, .dat (gapD es), s2, s3, .mt true (.lst ((frst es L).map D.int)), .no, .no] = .ok .nx [.dat n, .dat (gapD es), s2, s3, .mt true (.lst ((frst es L).map D.int)), .no, .no] := by
    simp [res, dLst, eq_nil, fe]
  have pa : pBin .Add [.lst (fs.map D.int), .lst ((frst es L).map D.int)] = some (.new (.lst ((fs ++ frst es L).map D.int))) := by
    show (if (fs.map D.int).length + ((frst es L).map D.int).length ≤ LIM then some (Ou.new (.lst _)) else none) = _
    rw [if_pos (by simp only [List.length_map]; unfold LIM; omega), List.map_append]
  have s3' : ex 1000 (.set 2 (.prim (pBin .Add) (.cons (.var 2) (.cons (.var 4) .nil)))) [.dat n, .dat (gapD es), s2, s3, .mt true (.lst ((frst es L).map D.int)), .no, .no] = .ok .nx [.dat n, .dat (gapD es), .mt true (.lst ((fs ++ frst es L).map D.int)), s3, .mt true (.lst ((frst es L).map D.int)), .no, .no] := by
    generalize (fs ++ frst es L).map D.int = X at pa
    rcases h2 with rfl | rfl <;> simp [res, pa, store]
  have s4 := set_new (n := 1000) (i := 3) (oo_left (n := n) (es := es) (s2 := .mt true (.lst ((fs ++ frst es L).map D.int))) (F := frst es L) hl h3) (by simp)
  unfold ooB
  rw [exs_nx s1]
  show exs 1000 _ [.dat n, .dat (gapD es), s2, s3, .mt true (.lst ((frst es L).map D.int)), .no, .no] = _
  rw [exs_nx s2', exs_nx s3', exs_nx s4, exs_nil]
  rfl
theorem oo_loop {n : D} {m : Int} {es : List E3} (hE : Edges m es) (hm : m ≤ 64) : ∀ (k : Nat) (fs L : List Int) (s2 s3 a4 : Slot), L.length < k → OInv m es fs L → Sl s2 (.lst (fs.map D.int)) → Sl s3 (.lst (L.map D.int)) →
    ∃ fs' s2' s3' a4', whlLoop (ev ooW) (exs 1000 ooB) k [.dat n, .dat (gapD es), s2, s3, a4, .no, .no] = .ok .nx [.dat n, .dat (gapD es), s2', s3', a4', .no, .no] ∧ Sl s2' (.lst (fs'.map D.int)) ∧ OInv m es fs' []
  | 0, _, _, _, _, _, h, _, _, _ => absurd h (Nat.not_lt_zero _)
  | k + 1, fs, L, s2, s3, a4, hk, I, h2, h3 => by
    have c := oo_cond (n := n) (es := es) (s2 := s2) (a4 := a4) h3
    cases L with
    | nil =>
      refine ⟨fs, s2, s3, a4, ?_, h2, I⟩
      unfold whlLoop
      rw [c]
      rfl
    | cons x L =>
      have il := I.len
      have b := oo_body (n := n) hE (a4 := a4) (List.cons_ne_nil x L) (by omega) (by omega) h2 h3
      have l1 := lens es (x :: L)
      have l2 : 0 < (frst es (x :: L)).length := List.length_pos_iff.mpr (frst_ne hE (List.cons_ne_nil x L))
      obtain ⟨fs', s2', s3', a4', e, q1, q2⟩ := oo_loop (n := n) hE hm k (fs ++ frst es (x :: L)) (lft es (x :: L)) _ _ (.mt true (.lst ((frst es (x :: L)).map D.int))) (by omega) I.next (.inr rfl) (.inr rfl)
      refine ⟨fs', s2', s3', a4', ?_, q1, q2⟩
      unfold whlLoop
      rw [c]
      simp only [bind_ok, List.isEmpty_cons, Bool.not_false]
      rw [b]
      exact e
def OrdOk (f : Fn) : Prop := f.io = [false, false] ∧ ∀ (n : Nat) (es : List E3), n ≤ 64 → Edges n es → ∃ (fs : List Int) (o : Ou), (o = .dat (.lst (fs.map D.int)) ∨ o = .new (.lst (fs.map D.int))) ∧ OInv n es fs [] ∧ f.F [.int n, gapD es] = .ok o []
theorem ord_ok (g : Fs) : OrdOk (step g).f_onward_order := by
  refine ⟨rfl, fun n es hn hE => ?_⟩
  have I0 : OInv n es [] (upto n) := by
    refine ⟨fun e he _ => upto_mem.mpr ⟨(hE.rng e he).2.2.1, (hE.rng e he).2.2.2.1⟩, fun A j B h => ?_, fun x h0 h1 => .inr (upto_mem.mpr ⟨h0, h1⟩), fun x h => ?_, ?_⟩
    · cases A <;> cases h
    · rcases h with h | h
      · cases h
      · exact upto_mem.mp h
    · rw [upto_len]; simp
  obtain ⟨fs, s2, s3, a4, e, q1, q2⟩ := oo_loop (n := .int n) hE (by omega) 1000 [] (upto n) (.dat (.lst [])) (.dat (.lst ((upto n).map D.int))) .no (by rw [upto_len]; omega) I0 (.inl rfl) (.inl rfl)
  have rg : pLRg [.int (n : Int)] = some (.new (.lst ((upto n).map D.int))) := by
    rw [← rngD_upto]
    show (if -R62 ≤ (n : Int) ∧ (n : Int) ≤ LIM then some (Ou.new (.lst (rngD 0 (n : Int)))) else none) = _
    rw [if_pos (by unfold R62 LIM; omega)]
  have s1 : ex 1000 (.unp (.cons (.nm 2) (.cons (.nm 3) .nil)) (.mk dTup (.cons (.mk dLst .nil) (.cons (.prim pLRg (.cons (.var 0) .nil)) .nil)))) [.dat (.int n), .dat (gapD es), .no, .no, .no, .no, .no] = .ok .nx [.dat (.int n), .dat (gapD es), .dat (.lst []), .dat (.lst ((upto n).map D.int)), .no, .no, .no] := by
    simp [dLst, rg, dTup, show 2 ≤ LIM by decide, bnd]
  have s2' : ex 1000 (.whl ooW ooB) [.dat (.int n), .dat (gapD es), .dat (.lst []), .dat (.lst ((upto n).map D.int)), .no, .no, .no] = .ok .nx [.dat (.int n), .dat (gapD es), s2, s3, a4, .no, .no] := by
    rw [ex_whl]
    exact e
  have pre : ∀ f Γ, ex 1000 (.ret (.var 2)) [.dat (.int n), .dat (gapD es), s2, s3, a4, .no, .no] = .ok (.rt f) Γ → exs 1000 (tm_f_onward_order g) [.dat (.int n), .dat (gapD es), .no, .no, .no, .no, .no] = .ok (.rt f) Γ := fun f Γ h => by
    show exs 1000 (.cons _ (.cons (.whl ooW ooB) (.cons _ .nil))) _ = _
    rw [exs_nx s1, exs_nx s2']
    exact exs_rt h
  rcases q1 with rfl | rfl
  · exact ⟨fs, .dat (.lst (fs.map D.int)), .inl rfl, q2, (r_f_onward_order g _).trans (runF_rt (pre _ [.dat (.int n), .dat (gapD es), .dat (.lst (fs.map D.int)), s3, a4, .no, .no] (by simp)) rfl rfl)⟩
  · exact ⟨fs, .new (.lst (fs.map D.int)), .inr rfl, q2, (r_f_onward_order g _).trans (runF_rt (pre _ [.dat (.int n), .dat (gapD es), .no, s3, a4, .no, .no] (by simp [retV])) rfl rfl)⟩
end Lw

end
-- Q16
section
namespace Lw
open PySem L2 MP
/-- a dict from some of the jobs to numbers -/
def iD (ks vs : List Int) : D := .dct (ks.map D.int) (vs.map D.int)
structure IDc (n : Int) (ks vs : List Int) : Prop where
  len : ks.length = vs.length
  nd : ks.Nodup
  rng : ∀ k ∈ ks, 0 ≤ k ∧ k < n
theorem nodup_len {n : Int} (h0 : 0 ≤ n) : ∀ {ks : List Int}, ks.Nodup → (∀ k ∈ ks, 0 ≤ k ∧ k < n) → (ks.length : Int) ≤ n := fun {ks} nd h => by
  have s := isort_srt ks
  have p := isort_perm ks
  have s2 : (isort ks).Pairwise (· < ·) := by
    have nd2 : (isort ks).Nodup := p.nodup_iff.mpr nd
    exact (s.and nd2).imp fun {a b} q => by
      have := q.1
      have := q.2
      omega
  have := inc_len _ 0 n s2 (fun x hx => h x (p.mem_iff.mp hx)) h0
  rw [p.length_eq] at this
  omega
theorem kEq_int (a b : Int) : kEq (.int a) (.int b) = decide (a = b) := by
  simp only [kEq, dKey]
  apply Bool.eq_iff_iff.mpr
  simp
theorem all_kK (ks : List Int) : (ks.map D.int).all kK = true := by
  rw [List.all_map]
  exact List.all_eq_true.mpr fun _ _ => rfl
theorem ask_int (ks : List Int) (k : Int) : askD (ks.map D.int) (.int k) = true := by
  simp [askD, all_kK, kK]
theorem any_int (ks : List Int) (k : Int) : ((ks.map D.int).any fun x => kEq x (.int k)) = decide (k ∈ ks) := by
  rw [List.any_map]
  apply Bool.eq_iff_iff.mpr
  rw [List.any_eq_true, decide_eq_true_eq]
  constructor
  · rintro ⟨x, hx, h⟩
    have : x = k := by simpa [kEq_int] using h
    exact this ▸ hx
  · exact fun h => ⟨k, h, by simp [kEq_int]⟩
theorem zip_ints (k v : Int) : ∀ ks vs : List Int, List.zipWith (fun x y => if kEq x (.int k) = true then D.int v else y) (ks.map D.int) (vs.map D.int) = (List.zipWith (fun x y => if x = k then v else y) ks vs).map D.int
  | [], _ => by simp
  | _ :: _, [] => by simp
  | x :: ks, y :: vs => by
    have ih := zip_ints k v ks vs
    simp only [List.map_cons, List.zipWith_cons_cons, kEq_int, decide_eq_true_eq] at ih ⊢
    rw [ih]
    by_cases h : x = k <;> simp [h]
theorem put_int {n : Int} (h0 : 0 ≤ n) (hn : n ≤ 64) {ks vs : List Int} (I : IDc n ks vs) {k : Int} (hk : 0 ≤ k ∧ k < n) (v : Int) : ∃ ks' vs', IDc n ks' vs' ∧ k ∈ ks' ∧ (∀ x ∈ ks, x ∈ ks') ∧ orT stL stDc (iD ks vs) (.int k) (.int v) = some (iD ks' vs') := by
  have l := nodup_len h0 I.nd I.rng
  have ll : ks.length < LIM := by unfold LIM; omega
  have e : orT stL stDc (iD ks vs) (.int k) (.int v) = some (.dct (putD (ks.map D.int) (vs.map D.int) (.int k) (.int v) kEq).1 (putD (ks.map D.int) (vs.map D.int) (.int k) (.int v) kEq).2) := by
    show stDc (iD ks vs) (.int k) (.int v) = _
    unfold iD
    simp only [stDc, List.length_map, ask_int, ll, and_self, if_true]
  rw [e]
  unfold putD
  rw [any_int]
  by_cases hm : k ∈ ks
  · refine ⟨ks, List.zipWith (fun x y => if x = k then v else y) ks vs, ⟨by simp [I.len], I.nd, I.rng⟩, hm, fun x h => h, ?_⟩
    rw [if_pos (decide_eq_true hm), zip_ints]
    rfl
  · refine ⟨ks ++ [k], vs ++ [v], ⟨by simp [I.len], ?_, fun x hx => ?_⟩, by simp, fun x h => List.mem_append_left _ h, ?_⟩
    · rw [List.nodup_append]
      exact ⟨I.nd, by simp, fun a ha b hb hab => hm (by rw [← List.mem_singleton.mp hb, ← hab]; exact ha)⟩
    · rcases List.mem_append.mp hx with h | h
      · exact I.rng x h
      · rw [List.mem_singleton.mp h]; exact hk
    · rw [if_neg (by rw [decide_eq_false hm]; decide)]
      simp [iD]
theorem val_int {k : Int} : ∀ {ks vs : List Int}, ks.length = vs.length → (k ∈ ks → ∃ x, valD (ks.map D.int) (vs.map D.int) (.int k) = some (.int x)) ∧ (∃ x, (valD (ks.map D.int) (vs.map D.int) (.int k)).getD (.int 0) = .int x)
  | [], [], _ => ⟨nofun, 0, rfl⟩
  | [], _ :: _, h => by simp at h
  | _ :: _, [], h => by simp at h
  | a :: ks, v :: vs, h => by
    obtain ⟨i1, i2⟩ := val_int (k := k) (ks := ks) (vs := vs) (by simpa using h)
    simp only [List.map_cons, valD, kEq_int, decide_eq_true_eq]
    by_cases q : a = k
    · rw [if_pos q]
      exact ⟨fun _ => ⟨v, rfl⟩, v, rfl⟩
    · rw [if_neg q]
      exact ⟨fun hm => i1 ((List.mem_cons.mp hm).resolve_left fun z => q z.symm), i2⟩
end Lw

end
-- Q17
section
namespace Lw
open PySem L2 MP
def wy3 : Ss := .cons (.sub (orT stL stDc) 5 (.var 9) (.prim pMax (.cons (.mk dLst (.cons (.rcv isDct pDGet (.var 5) (.cons (.var 9) (.cons (.con (.int 0)) .nil))) (.cons (.prim (pBin .Add) (.cons (.prim (pBin .Add) (.cons (.var 10) (.cons (.con (.int 1)) .nil))) (.cons (.var 8) .nil))) .nil))) .nil))) .nil
def iD2 (p : Int × Int) : D := .tup [.int p.1, .int p.2]
theorem items_int (ks vs : List Int) : gItems [iD ks vs] = some ((ks.zip vs).map iD2) := by
  unfold iD
  simp only [gItems, List.zip]
  rw [List.zipWith_map, List.map_zipWith]
  rfl
theorem wy_turn {n : Int} (h0 : 0 ≤ n) (hn : n ≤ 64) {ks vs : List Int} (I : IDc n ks vs) {last long gap : Int} (hl : 0 ≤ last ∧ last < n) (s0 s1 s2 s3 s4 s6 s7 : Slot) : ∃ ks' vs', IDc n ks' vs' ∧ (∀ x ∈ ks, x ∈ ks') ∧ exs 1000 wy3 [s0, s1, s2, s3, s4, .mt true (iD ks vs), s6, s7, .dat (.int gap), .dat (.int last), .dat (.int long)] = .ok .nx [s0, s1, s2, s3, s4, .mt true (iD ks' vs'), s6, s7, .dat (.int gap), .dat (.int last), .dat (.int long)] := by
  obtain ⟨_, x, hx⟩ := val_int (k := last) I.len
  have g : pDGet [iD ks vs, .int last, .int 0] = some (.dat (.int x)) := by
    unfold iD
    simp only [pDGet, ask_int, imm, and_self, if_true, hx]
  obtain ⟨y, m⟩ : ∃ y : Int, pMax [.lst [.int x, .int (long + 1 + gap)]] = some (.dat (.int y)) := ⟨_, rfl⟩
  obtain ⟨ks', vs', I', _, sub, e⟩ := put_int h0 hn I hl y
  refine ⟨ks', vs', I', sub, ?_⟩
  have isd : isDct (iD ks vs) = true := rfl
  generalize iD ks vs = A at g e isd
  generalize iD ks' vs' = B at e
  simp [wy3, isMt, res, isd, g, dLst, show 2 ≤ LIM by decide, m, e]
theorem wy_inner {n : Int} (h0 : 0 ≤ n) (hn : n ≤ 64) {gap : Int} (s0 s1 s2 s3 s4 s6 s7 : Slot) : ∀ (it : List (Int × Int)) (ks vs : List Int) (a9 a10 : Slot), IDc n ks vs → (∀ p ∈ it, 0 ≤ p.1 ∧ p.1 < n) → ∃ ks' vs' b9 b10, IDc n ks' vs' ∧ (∀ x ∈ ks, x ∈ ks') ∧ (a9 = .no ∨ (∃ d, a9 = .dat d) → b9 = .no ∨ ∃ d, b9 = .dat d) ∧
    forLoop (exs 1000 wy3) (.cons (.nm 9) (.cons (.nm 10) .nil)) (it.map iD2) [s0, s1, s2, s3, s4, .mt true (iD ks vs), s6, s7, .dat (.int gap), a9, a10] = .ok .nx [s0, s1, s2, s3, s4, .mt true (iD ks' vs'), s6, s7, .dat (.int gap), b9, b10]
  | [], ks, vs, a9, a10, I, _ => ⟨ks, vs, a9, a10, I, fun x h => h, fun h => h, by simp [forLoop]⟩
  | p :: it, ks, vs, a9, a10, I, h => by
    obtain ⟨k1, v1, I1, m1, e1⟩ := wy_turn h0 hn I (long := p.2) (gap := gap) (h p List.mem_cons_self) s0 s1 s2 s3 s4 s6 s7
    obtain ⟨k2, v2, b9, b10, I2, m2, q2, e2⟩ := wy_inner h0 hn (gap := gap) s0 s1 s2 s3 s4 s6 s7 it k1 v1 (.dat (.int p.1)) (.dat (.int p.2)) I1 fun x hx => h x (List.mem_cons_of_mem _ hx)
    refine ⟨k2, v2, b9, b10, I2, fun x hx => m2 x (m1 x hx), fun _ => q2 (.inr ⟨_, rfl⟩), ?_⟩
    rw [List.map_cons]
    unfold forLoop
    simp only [iD2, bnd, List.length_cons, List.length_nil, List.length_set, show (9 : Nat) < 0 + 1 + 1 + 1 + 1 + 1 + 1 + 1 + 1 + 1 + 1 + 1 by decide, show (10 : Nat) < 0 + 1 + 1 + 1 + 1 + 1 + 1 + 1 + 1 + 1 + 1 + 1 by decide, if_true, List.set_cons_succ, List.set_cons_zero]
    rw [e1]
    simp only [bind_ok]
    exact e2
/-- what has been found: dicts of some jobs -/
structure Fnd (n : Int) (ps : List Int) (ds : List D) : Prop where
  len : ps.length = ds.length
  nd : ps.Nodup
  rng : ∀ k ∈ ps, 0 ≤ k ∧ k < n
  val : ∀ d ∈ ds, ∃ ks vs, d = iD ks vs ∧ IDc n ks vs
theorem val_fnd {n : Int} {k : Int} : ∀ {ps : List Int} {ds : List D}, ps.length = ds.length → (∀ d ∈ ds, ∃ ks vs, d = iD ks vs ∧ IDc n ks vs) → k ∈ ps → ∃ ks vs, valD (ps.map D.int) ds (.int k) = some (iD ks vs) ∧ IDc n ks vs
  | [], _, _, _, h => by cases h
  | _ :: _, [], h, _, _ => by simp at h
  | a :: ps, d :: ds, hl, hv, hm => by
    simp only [List.map_cons, valD, kEq_int, decide_eq_true_eq]
    by_cases q : a = k
    · rw [if_pos q]
      obtain ⟨ks, vs, e, I⟩ := hv d List.mem_cons_self
      exact ⟨ks, vs, by rw [e], I⟩
    · rw [if_neg q]
      exact val_fnd (by simpa using hl) (fun x hx => hv x (List.mem_cons_of_mem _ hx)) ((List.mem_cons.mp hm).resolve_left fun z => q z.symm)
def wy2 : Ss := .cons (.ite (.prim (pCmpT .Eq) (.cons (.var 6) (.cons (.var 4) .nil))) (.cons (.for gItems (.cons (.ess (.prim (orP pIx pDIx) (.cons (.var 3) (.cons (.var 7) .nil)))) .nil) (.cons (.nm 9) (.cons (.nm 10) .nil)) wy3) .nil) .nil) .nil
theorem wy_mid {n : Int} (h0 : 0 ≤ n) (hn : n ≤ 64) {ps : List Int} {ds : List D} (F : Fnd n ps ds) {job : Int} (s0 s1 s2 : Slot) : ∀ (it : List E3) (ks vs : List Int) (a6 a7 a8 a9 a10 : Slot), IDc n ks vs → (∀ e ∈ it, e.1 = job → e.2.1 ∈ ps) → (a9 = .no ∨ ∃ d, a9 = .dat d) → ∃ ks' vs' b6 b7 b8 b9 b10, IDc n ks' vs' ∧ (b9 = .no ∨ ∃ d, b9 = .dat d) ∧
    forLoop (exs 1000 wy2) (.cons (.cons (.nm 6) (.cons (.nm 7) .nil)) (.cons (.nm 8) .nil)) (it.map fun e => D.tup [kP e, vP e]) [s0, s1, s2, .mt true (.dct (ps.map D.int) ds), .dat (.int job), .mt true (iD ks vs), a6, a7, a8, a9, a10] = .ok .nx [s0, s1, s2, .mt true (.dct (ps.map D.int) ds), .dat (.int job), .mt true (iD ks' vs'), b6, b7, b8, b9, b10]
  | [], ks, vs, a6, a7, a8, a9, a10, I, _, q => ⟨ks, vs, a6, a7, a8, a9, a10, I, q, by simp [forLoop]⟩
  | e :: it, ks, vs, a6, a7, a8, a9, a10, I, h, q => by
    have one : ∃ k1 v1 b9 b10, IDc n k1 v1 ∧ (b9 = .no ∨ ∃ d, b9 = .dat d) ∧ exs 1000 wy2 [s0, s1, s2, .mt true (.dct (ps.map D.int) ds), .dat (.int job), .mt true (iD ks vs), .dat (.int e.1), .dat (.int e.2.1), .dat (.int e.2.2), a9, a10] = .ok .nx [s0, s1, s2, .mt true (.dct (ps.map D.int) ds), .dat (.int job), .mt true (iD k1 v1), .dat (.int e.1), .dat (.int e.2.1), .dat (.int e.2.2), b9, b10] := by
      by_cases hj : e.1 = job
      · obtain ⟨k0, v0, ev0, I0⟩ := val_fnd F.len F.val (h e List.mem_cons_self hj)
        obtain ⟨k1, v1, b9, b10, I1, _, q1, e1⟩ := wy_inner h0 hn (gap := e.2.2) s0 s1 s2 (.mt true (.dct (ps.map D.int) ds)) (.dat (.int job)) (.dat (.int e.1)) (.dat (.int e.2.1)) (k0.zip v0) ks vs a9 a10 I (fun p hp => I0.rng _ (List.of_mem_zip hp).1)
        refine ⟨k1, v1, b9, b10, I1, q1 q, ?_⟩
        have ix : pDIx [.dct (ps.map D.int) ds, .int e.2.1] = some (.dat (iD k0 v0)) := by
          simp only [pDIx, ask_int, if_true, ev0]
          rfl
        have f := forS (n := 1000) (g := gItems) (as := .cons (.ess (.prim (orP pIx pDIx) (.cons (.var 3) (.cons (.var 7) .nil)))) .nil) (tg := .cons (.nm 9) (.cons (.nm 10) .nil)) (b := wy3) (ls := [.dat (iD k0 v0)]) (Γ := [s0, s1, s2, .mt true (.dct (ps.map D.int) ds), .dat (.int job), .mt true (iD ks vs), .dat (.int e.1), .dat (.int e.2.1), .dat (.int e.2.2), a9, a10])
          (by simp [res, ix]) rfl rfl (items_int k0 v0) e1
        unfold wy2
        rw [exs_nx ((ite_t (by simp [hj])).trans ((exs_nx f).trans exs_nil)), exs_nil]
      · have hj' : (e.1 == job) = false := by simpa using hj
        refine ⟨ks, vs, a9, a10, I, q, ?_⟩
        unfold wy2
        rw [exs_nx (Γ1 := [s0, s1, s2, .mt true (.dct (ps.map D.int) ds), .dat (.int job), .mt true (iD ks vs), .dat (.int e.1), .dat (.int e.2.1), .dat (.int e.2.2), a9, a10]) ((ite_f (by simp [hj'])).trans exs_nil), exs_nil]
    obtain ⟨k1, v1, c9, c10, I1, q1, e1⟩ := one
    obtain ⟨k2, v2, b6, b7, b8, b9, b10, I2, q2, e2⟩ := wy_mid h0 hn F (job := job) s0 s1 s2 it k1 v1 (.dat (.int e.1)) (.dat (.int e.2.1)) (.dat (.int e.2.2)) c9 c10 I1 (fun x hx => h x (List.mem_cons_of_mem _ hx)) q1
    refine ⟨k2, v2, b6, b7, b8, b9, b10, I2, q2, ?_⟩
    rw [List.map_cons]
    unfold forLoop
    simp only [kP, vP, bnd, List.length_cons, List.length_nil, List.length_set, show (6 : Nat) < 0 + 1 + 1 + 1 + 1 + 1 + 1 + 1 + 1 + 1 + 1 + 1 by decide, show (7 : Nat) < 0 + 1 + 1 + 1 + 1 + 1 + 1 + 1 + 1 + 1 + 1 + 1 by decide, show (8 : Nat) < 0 + 1 + 1 + 1 + 1 + 1 + 1 + 1 + 1 + 1 + 1 + 1 by decide, if_true, List.set_cons_succ, List.set_cons_zero]
    rw [e1]
    simp only [bind_ok]
    simp only [kP, vP] at e2
    exact e2
end Lw

end
-- Q18
section
namespace Lw
open PySem L2 MP
theorem put_fnd {n : Int} (h0 : 0 ≤ n) (hn : n ≤ 64) {ps : List Int} {ds : List D} (F : Fnd n ps ds) {k : Int} (hk : 0 ≤ k ∧ k < n) {ks vs : List Int} (I : IDc n ks vs) : ∃ ps' ds', Fnd n ps' ds' ∧ k ∈ ps' ∧ (∀ x ∈ ps, x ∈ ps') ∧ orT stL stDc (.dct (ps.map D.int) ds) (.int k) (iD ks vs) = some (.dct (ps'.map D.int) ds') := by
  have l := nodup_len h0 F.nd F.rng
  have ll : ps.length < LIM := by unfold LIM; omega
  have e : orT stL stDc (.dct (ps.map D.int) ds) (.int k) (iD ks vs) = some (.dct (putD (ps.map D.int) ds (.int k) (iD ks vs) kEq).1 (putD (ps.map D.int) ds (.int k) (iD ks vs) kEq).2) := by
    show stDc (.dct (ps.map D.int) ds) (.int k) (iD ks vs) = _
    simp only [stDc, List.length_map, ask_int, ll, and_self, if_true]
  rw [e]
  unfold putD
  rw [any_int]
  by_cases hm : k ∈ ps
  · refine ⟨ps, List.zipWith (fun x y => if kEq x (.int k) = true then iD ks vs else y) (ps.map D.int) ds, ⟨by simp [F.len], F.nd, F.rng, fun d hd => ?_⟩, hm, fun x h => h, ?_⟩
    · obtain ⟨i, hi⟩ := List.mem_iff_getElem?.mp hd
      rw [List.getElem?_zipWith] at hi
      cases q1 : (ps.map D.int)[i]? with
      | none => rw [q1] at hi; simp at hi
      | some x =>
        cases q2 : ds[i]? with
        | none => rw [q1, q2] at hi; simp at hi
        | some y =>
          rw [q1, q2] at hi
          simp only [Option.some.injEq] at hi
          by_cases c : kEq x (.int k) = true
          · rw [if_pos c] at hi; exact ⟨ks, vs, hi.symm, I⟩
          · rw [if_neg c] at hi; rw [← hi]; exact F.val y (List.mem_of_getElem? q2)
    · rw [if_pos (decide_eq_true hm)]
  · refine ⟨ps ++ [k], ds ++ [iD ks vs], ⟨by simp [F.len], ?_, fun x hx => ?_, fun d hd => ?_⟩, by simp, fun x h => List.mem_append_left _ h, ?_⟩
    · rw [List.nodup_append]
      exact ⟨F.nd, by simp, fun a ha b hb hab => hm (by rw [← List.mem_singleton.mp hb, ← hab]; exact ha)⟩
    · rcases List.mem_append.mp hx with h | h
      · exact F.rng x h
      · rw [List.mem_singleton.mp h]; exact hk
    · rcases List.mem_append.mp hd with h | h
      · exact F.val d h
      · exact ⟨ks, vs, List.mem_singleton.mp h, I⟩
    · rw [if_neg (by rw [decide_eq_false hm]; decide)]
      simp
def wyK : Tm := .prim (orP pIx pDIx) (.cons (.var 5) (.cons (.var 9) .nil))
theorem dc_run {n : Int} {ks vs : List Int} (I : IDc n ks vs) (s0 s1 s2 s3 s4 s6 s7 s8 s10 : Slot) : ∀ (zs ka va : List Int), ka.length = va.length → (ka ++ zs).Nodup → (∀ z ∈ zs, z ∈ ks) → ∃ vb : List Int, (ka ++ zs).length = vb.length ∧
    dcLoop (ev (.con (.bl true))) (ev (.var 9)) (ev wyK) (.nm 9) [9] (zs.map D.int) (ka.map D.int, va.map D.int) [s0, s1, s2, s3, s4, .mt true (iD ks vs), s6, s7, s8, .no, s10] = .ok ((ka ++ zs).map D.int, vb.map D.int) [s0, s1, s2, s3, s4, .mt true (iD ks vs), s6, s7, s8, .no, s10]
  | [], ka, va, hl, _, _ => ⟨va, by simpa using hl, by simp [dcLoop]⟩
  | z :: zs, ka, va, hl, nd, hz => by
    obtain ⟨x, hx⟩ := (val_int (k := z) I.len).1 (hz z List.mem_cons_self)
    have nk : z ∉ ka := fun h => (List.nodup_append.mp nd).2.2 z h z List.mem_cons_self rfl
    have pt : putD (ka.map D.int) (va.map D.int) (.int z) (.int x) kEq = ((ka ++ [z]).map D.int, (va ++ [x]).map D.int) := by
      unfold putD
      rw [any_int, if_neg (by rw [decide_eq_false nk]; decide)]
      simp
    obtain ⟨vb, lb, e⟩ := dc_run I s0 s1 s2 s3 s4 s6 s7 s8 s10 zs (ka ++ [z]) (va ++ [x]) (by simp [hl]) (by simpa using nd) fun y hy => hz y (List.mem_cons_of_mem _ hy)
    refine ⟨vb, by simpa using lb, ?_⟩
    have ix : pDIx [iD ks vs, .int z] = some (.dat (.int x)) := by
      unfold iD
      simp only [pDIx, ask_int, if_true, hx]
      rfl
    have vk : ev wyK [s0, s1, s2, s3, s4, .mt true (iD ks vs), s6, s7, s8, .dat (.int z), s10] = .ok (.dat (.int x)) [s0, s1, s2, s3, s4, .mt true (iD ks vs), s6, s7, s8, .dat (.int z), s10] := by
      have ixd : orP pIx pDIx [iD ks vs, .int z] = some (.dat (.int x)) := by
        unfold iD at ix ⊢
        rw [ix_dct, ix]
      generalize iD ks vs = A at ixd
      simp [wyK, res, ixd]
    rw [List.map_cons]
    unfold dcLoop
    simp only [bnd, List.length_cons, List.length_nil, show (9 : Nat) < 0 + 1 + 1 + 1 + 1 + 1 + 1 + 1 + 1 + 1 + 1 + 1 by decide, if_true, List.set_cons_succ, List.set_cons_zero, ev_con, Rs.nox, Rs.bind, ev_var, List.getElem?_cons_succ, List.getElem?_cons_zero, kK, vk, esc_dat, pt, wipeG]
    rw [e]
    simp
def wy1 : Ss := .cons (.set 5 (.mk dDc1 (.cons (.var 4) (.cons (.con (.int 0)) .nil))))
   (.cons (.for gItems (.cons (.ess (.var 1)) .nil) (.cons (.cons (.nm 6) (.cons (.nm 7) .nil)) (.cons (.nm 8) .nil)) wy2)
   (.cons (.sub (orT stL stDc) 3 (.var 4) (.dc gSeq (.cons (.prim (orP pSrt pSrtT) (.cons (.prim (orP pLst pLstD) (.cons (.var 5) .nil)) .nil)) .nil) (.nm 9) [9] (.con (.bl true)) (.var 9) wyK)) .nil))
theorem gapItems (es : List E3) : gItems [gapD es] = some (es.map fun e => D.tup [kP e, vP e]) := by
  unfold gapD
  simp only [gItems]
  rw [List.zipWith_map, List.zipWith_self]
theorem wy_job {n : Int} (h0 : 0 ≤ n) (hn : n ≤ 64) {es : List E3} {ps : List Int} {ds : List D} (F : Fnd n ps ds) {job : Int} (hj : 0 ≤ job ∧ job < n) (hs : ∀ e ∈ es, e.1 = job → e.2.1 ∈ ps) (s0 s2 a5 a6 a7 a8 a9 a10 : Slot) (h9 : a9 = .no ∨ ∃ d, a9 = .dat d) :
    ∃ ps' ds' b5 b6 b7 b8 b9 b10, Fnd n ps' ds' ∧ job ∈ ps' ∧ (∀ x ∈ ps, x ∈ ps') ∧ (b9 = .no ∨ ∃ d, b9 = .dat d) ∧ exs 1000 wy1 [s0, .dat (gapD es), s2, .mt true (.dct (ps.map D.int) ds), .dat (.int job), a5, a6, a7, a8, a9, a10] = .ok .nx [s0, .dat (gapD es), s2, .mt true (.dct (ps'.map D.int) ds'), .dat (.int job), b5, b6, b7, b8, b9, b10] := by
  have I0 : IDc n [job] [0] := ⟨rfl, by simp, fun k hk => by rw [List.mem_singleton.mp hk]; exact hj⟩
  obtain ⟨ks, vs, b6, b7, b8, b9, b10, I, q9, e2⟩ := wy_mid h0 hn F (job := job) s0 (.dat (gapD es)) s2 es [job] [0] a6 a7 a8 a9 a10 I0 hs h9
  have s1 : ex 1000 (.set 5 (.mk dDc1 (.cons (.var 4) (.cons (.con (.int 0)) .nil)))) [s0, .dat (gapD es), s2, .mt true (.dct (ps.map D.int) ds), .dat (.int job), a5, a6, a7, a8, a9, a10] = .ok .nx [s0, .dat (gapD es), s2, .mt true (.dct (ps.map D.int) ds), .dat (.int job), .mt true (iD [job] [0]), a6, a7, a8, a9, a10] := by
    simp [dDc1, kK, store, iD]
  have s2' := forS (n := 1000) (g := gItems) (as := .cons (.ess (.var 1)) .nil) (tg := .cons (.cons (.nm 6) (.cons (.nm 7) .nil)) (.cons (.nm 8) .nil)) (b := wy2) (ls := [.dat (gapD es)]) (Γ := [s0, .dat (gapD es), s2, .mt true (.dct (ps.map D.int) ds), .dat (.int job), .mt true (iD [job] [0]), a6, a7, a8, a9, a10]) (by simp) rfl rfl (gapItems es) e2
  have p := isort_perm ks
  obtain ⟨vb, lb, ed⟩ := dc_run I s0 (.dat (gapD es)) s2 (.mt true (.dct (ps.map D.int) ds)) (.dat (.int job)) b6 b7 b8 b10 (isort ks) [] [] rfl (by simpa using p.nodup_iff.mpr I.nd) fun z hz => p.mem_iff.mp hz
  have I2 : IDc n (isort ks) vb := ⟨by simpa using lb, p.nodup_iff.mpr I.nd, fun k hk => I.rng k (p.mem_iff.mp hk)⟩
  obtain ⟨ps', ds', F', m1, m2, ep⟩ := put_fnd h0 hn F hj I2
  refine ⟨ps', ds', .mt true (iD ks vs), b6, b7, b8, b9, b10, F', m1, m2, q9, ?_⟩
  have ksl := nodup_len h0 I.nd I.rng
  have src : evA (.cons (.prim (orP pSrt pSrtT) (.cons (.prim (orP pLst pLstD) (.cons (.var 5) .nil)) .nil)) .nil) [s0, .dat (gapD es), s2, .mt true (.dct (ps.map D.int) ds), .dat (.int job), .mt true (iD ks vs), b6, b7, b8, b9, b10] = .ok [.new (.lst ((isort ks).map D.int))] [s0, .dat (gapD es), s2, .mt true (.dct (ps.map D.int) ds), .dat (.int job), .mt true (iD ks vs), b6, b7, b8, b9, b10] := by
    have l1 : orP pLst pLstD [iD ks vs] = some (.new (.lst (ks.map D.int))) := by
      unfold orP iD
      simp only [pLst, pLstD, all_kK, if_true]
    have l2 : orP pSrt pSrtT [.lst (ks.map D.int)] = some (.new (.lst ((isort ks).map D.int))) := by
      unfold orP
      simp only [pSrt, ints?_map]
    generalize iD ks vs = A at l1
    simp [res, l1, l2]
  have nm : noMut [9] [s0, .dat (gapD es), s2, .mt true (.dct (ps.map D.int) ds), .dat (.int job), .mt true (iD ks vs), b6, b7, b8, b9, b10] = true := by
    rcases q9 with rfl | ⟨d, rfl⟩ <;> rfl
  have dcv := ev_dc (Γ := [s0, .dat (gapD es), s2, .mt true (.dct (ps.map D.int) ds), .dat (.int job), .mt true (iD ks vs), b6, b7, b8, b9, b10]) (g := gSeq) (tg := .nm 9) (own := [9]) (c := .con (.bl true)) (k := .var 9) (e := wyK) (ds := [.lst ((isort ks).map D.int)]) (xs := (isort ks).map D.int) (acc := ((isort ks).map D.int, vb.map D.int)) src rfl rfl (by rw [List.length_map, p.length_eq]; unfold LIM; omega) nm (by simpa [locks, lockA, wipeG] using ed)
  have kp : keepG [9] [s0, .dat (gapD es), s2, .mt true (.dct (ps.map D.int) ds), .dat (.int job), .mt true (iD ks vs), b6, b7, b8, b9, b10] (unlockA (locks [s0, .dat (gapD es), s2, .mt true (.dct (ps.map D.int) ds), .dat (.int job), .mt true (iD ks vs), b6, b7, b8, b9, b10] [Vl.new (.lst ((isort ks).map D.int))]) [s0, .dat (gapD es), s2, .mt true (.dct (ps.map D.int) ds), .dat (.int job), .mt true (iD ks vs), b6, b7, b8, .no, b10]) = [s0, .dat (gapD es), s2, .mt true (.dct (ps.map D.int) ds), .dat (.int job), .mt true (iD ks vs), b6, b7, b8, b9, b10] := rfl
  rw [kp] at dcv
  have s3 : ∀ t : Tm, ev t [s0, .dat (gapD es), s2, .mt true (.dct (ps.map D.int) ds), .dat (.int job), .mt true (iD ks vs), b6, b7, b8, b9, b10] = .ok (.new (iD (isort ks) vb)) [s0, .dat (gapD es), s2, .mt true (.dct (ps.map D.int) ds), .dat (.int job), .mt true (iD ks vs), b6, b7, b8, b9, b10] →
      ex 1000 (.sub (orT stL stDc) 3 (.var 4) t) [s0, .dat (gapD es), s2, .mt true (.dct (ps.map D.int) ds), .dat (.int job), .mt true (iD ks vs), b6, b7, b8, b9, b10] = .ok .nx [s0, .dat (gapD es), s2, .mt true (.dct (ps'.map D.int) ds'), .dat (.int job), .mt true (iD ks vs), b6, b7, b8, b9, b10] := fun t ht => by
    generalize iD (isort ks) vb = V at ht ep
    generalize iD ks vs = A at ht
    simp [isMt, ht, ep]
  unfold wy1
  rw [exs_nx s1, exs_nx s2', exs_nx (s3 _ dcv), exs_nil]
end Lw

end
-- Q19
section
namespace Lw
open PySem L2 MP
theorem wy_loop {n : Int} (h0 : 0 ≤ n) (hn : n ≤ 64) {es : List E3} {fs : List Int} (O : OInv n es fs []) (s0 s2 : Slot) : ∀ (todo dn ps : List Int) (ds : List D) (a4 a5 a6 a7 a8 a9 a10 : Slot), fs = todo.reverse ++ dn → Fnd n ps ds → (∀ x ∈ dn, x ∈ ps) → (a9 = .no ∨ ∃ d, a9 = .dat d) → (a4 = .no ∨ ∃ d, a4 = .dat d) →
    ∃ ps' ds' b4 b5 b6 b7 b8 b9 b10, Fnd n ps' ds' ∧ (∀ x ∈ fs, x ∈ ps') ∧ (b4 = .no ∨ ∃ d, b4 = .dat d) ∧ forLoop (exs 1000 wy1) (.nm 4) (todo.map D.int) [s0, .dat (gapD es), s2, .mt true (.dct (ps.map D.int) ds), a4, a5, a6, a7, a8, a9, a10] = .ok .nx [s0, .dat (gapD es), s2, .mt true (.dct (ps'.map D.int) ds'), b4, b5, b6, b7, b8, b9, b10]
  | [], dn, ps, ds, a4, a5, a6, a7, a8, a9, a10, hf, F, hd, _, h4 => ⟨ps, ds, a4, a5, a6, a7, a8, a9, a10, F, by rw [hf]; simpa using hd, h4, by simp [forLoop]⟩
  | job :: todo, dn, ps, ds, a4, a5, a6, a7, a8, a9, a10, hf, F, hd, h9, h4 => by
    have sp : fs = todo.reverse ++ job :: dn := by rw [hf]; simp
    have hj := O.rng job (.inl (by rw [sp]; simp))
    have hs : ∀ e ∈ es, e.1 = job → e.2.1 ∈ ps := fun e he q => by
      rcases O.on _ _ _ sp e he q with z | z
      · exact hd _ z
      · cases z
    obtain ⟨p1, d1, b5, b6, b7, b8, b9, b10, F1, m1, m2, q9, e1⟩ := wy_job h0 hn (es := es) F hj hs s0 s2 a5 a6 a7 a8 a9 a10 h9
    obtain ⟨p2, d2, c4, c5, c6, c7, c8, c9, c10, F2, m3, q4, e2⟩ := wy_loop h0 hn O s0 s2 todo (job :: dn) p1 d1 (.dat (.int job)) b5 b6 b7 b8 b9 b10 sp F1 (fun x hx => by
      rcases List.mem_cons.mp hx with z | z
      · rw [z]; exact m1
      · exact m2 x (hd x z)) q9 (.inr ⟨_, rfl⟩)
    refine ⟨p2, d2, c4, c5, c6, c7, c8, c9, c10, F2, m3, q4, ?_⟩
    rw [List.map_cons]
    unfold forLoop
    simp only [bnd, List.length_cons, List.length_nil, show (4 : Nat) < 0 + 1 + 1 + 1 + 1 + 1 + 1 + 1 + 1 + 1 + 1 + 1 by decide, if_true, List.set_cons_succ, List.set_cons_zero]
    rw [e1]
    simp only [bind_ok]
    exact e2
def WaysOk (f : Fn) : Prop := f.io = [false, false, false] ∧ ∀ (n : Nat) (es : List E3) (fs : List Int), n ≤ 64 → OInv n es fs [] → ∃ d, f.F [.int n, gapD es, .lst (fs.map D.int)] = .ok (.new d) []
def wyF (ps : List Int) (ds : List D) : D → D := fun x => (valD (ps.map D.int) ds x).getD .non
theorem ways_ok (g : Fs) : WaysOk (step g).f_ways_by := by
  refine ⟨rfl, fun n es fs hn O => ?_⟩
  have F0 : Fnd n [] [] := ⟨rfl, List.nodup_nil, nofun, nofun⟩
  obtain ⟨ps, ds, b4, b5, b6, b7, b8, b9, b10, F, m, q4, e⟩ := wy_loop (n := (n : Int)) (by omega) (by omega) O (.dat (.int n)) (.dat (.lst (fs.map D.int))) fs.reverse [] [] [] .no .no .no .no .no .no .no (by simp) F0 nofun (.inl rfl) (.inl rfl)
  have s2 := forS (n := 1000) (g := gSeq) (as := .cons (.prim pRev (.cons (.var 2) .nil)) .nil) (tg := .nm 4) (b := wy1) (ls := [.new (.lst (fs.reverse.map D.int))]) (Γ := [.dat (.int n), .dat (gapD es), .dat (.lst (fs.map D.int)), .mt true (.dct [] []), .no, .no, .no, .no, .no, .no, .no]) (by simp [pRev]) rfl rfl rfl e
  have nm : noMut [4] [.dat (.int n), .dat (gapD es), .dat (.lst (fs.map D.int)), .mt true (.dct (ps.map D.int) ds), b4, b5, b6, b7, b8, b9, b10] = true := by
    rcases q4 with rfl | ⟨d, rfl⟩ <;> rfl
  have l3 := lcS (Γ := [.dat (.int n), .dat (gapD es), .dat (.lst (fs.map D.int)), .mt true (.dct (ps.map D.int) ds), b4, b5, b6, b7, b8, b9, b10]) (g := gRng1) (as := .cons (.var 0) .nil) (ls := [.dat (.int n)]) (tg := .nm 4) (own := [4]) (c := .con (.bl true)) (e := .prim (orP pIx pDIx) (.cons (.var 3) (.cons (.var 4) .nil))) (by simp) rfl rfl (rng1 (by omega)) (by rw [rngD_len]; unfold LIM; omega) nm
    (lc_map (f := wyF ps ds) (Γ := [.dat (.int n), .dat (gapD es), .dat (.lst (fs.map D.int)), .mt true (.dct (ps.map D.int) ds), .no, b5, b6, b7, b8, b9, b10]) fun x hx => by
      rw [rngD_upto] at hx
      obtain ⟨j, hj, rfl⟩ := List.mem_map.mp hx
      obtain ⟨j0, j1⟩ := upto_mem.mp hj
      have jm : j ∈ ps := by
        rcases O.cov j j0 j1 with z | z
        · exact m j z
        · cases z
      obtain ⟨ks, vs, ev0, _⟩ := val_fnd F.len F.val jm
      have ix : pDIx [.dct (ps.map D.int) ds, .int j] = some (.dat (iD ks vs)) := by
        simp only [pDIx, ask_int, if_true, ev0]
        rfl
      refine ⟨[.dat (.int n), .dat (gapD es), .dat (.lst (fs.map D.int)), .mt true (.dct (ps.map D.int) ds), .dat (.int j), b5, b6, b7, b8, b9, b10], by simp [bnd], by simp, ?_, rfl⟩
      simp [res, ix, wyF, ev0])
  have h1 : exs 1000 (tm_f_ways_by g) [.dat (.int n), .dat (gapD es), .dat (.lst (fs.map D.int)), .no, .no, .no, .no, .no, .no, .no, .no] = .ok (.rt (.new (.lst ((rngD 0 (n : Int)).map (wyF ps ds))))) (keepG [4] [.dat (.int n), .dat (gapD es), .dat (.lst (fs.map D.int)), .mt true (.dct (ps.map D.int) ds), b4, b5, b6, b7, b8, b9, b10] [.dat (.int n), .dat (gapD es), .dat (.lst (fs.map D.int)), .mt true (.dct (ps.map D.int) ds), .no, b5, b6, b7, b8, b9, b10]) := by
    show exs 1000 (.cons _ (.cons (.for gSeq _ (.nm 4) wy1) (.cons _ .nil))) _ = _
    rw [exs_nx (Γ1 := [.dat (.int n), .dat (gapD es), .dat (.lst (fs.map D.int)), .mt true (.dct [] []), .no, .no, .no, .no, .no, .no, .no]) (by simp [dDct, store]), exs_nx s2]
    exact exs_rt (ret_new l3)
  exact ⟨_, (r_f_ways_by g _).trans (runF_rt h1 rfl rfl)⟩
end Lw

end
-- Q20
section
namespace Lw
open PySem L2 MP
def jobD (ws : List (Int × Int)) (es : List E3) (o w : D) : D := .obj "Jobs" ["own_windows", "own_gaps", "own_order", "own_ways"] [.tup (ws.map wD), gapD es, o, w]
def InitOk (f : Fn) : Prop := f.io = [true, false, false] ∧ ∀ ws es, Mod ws es → ∃ o w, f.F [.obj "Jobs" [] [], .tup (ws.map wD), .tup (es.map eD)] = .ok (.dat .non) [jobD ws es o w]
theorem all_true {α : Type} (l : List α) : pAll [.lst (l.map fun _ => D.bl true)] = some (.dat (.bl true)) := by
  have : ∀ l : List α, bools? (l.map fun _ => D.bl true) = some (l.map fun _ => true) := fun l => by
    induction l with
    | nil => rfl
    | cons a l ih => simp [bools?, ih]
  simp [pAll, this]
theorem isi_t (xs : List D) : pIsi "tuple" [.tup xs] = some (.dat (.bl true)) := rfl
theorem init_ok {g : Fs} (W : WindOk g.f_is_window) (Eg : EdgeOk g.f_is_edge) (Gp : GapsOk g.f_gaps_of) (Od : OrdOk g.f_onward_order) (Wy : WaysOk g.f_ways_by) : InitOk (step g).c_Jobs___init__ := by
  refine ⟨rfl, fun ws es M => ?_⟩
  obtain ⟨mw, mf, me⟩ := M
  have el := me.len (by omega)
  obtain ⟨fs, o, ho, O, eo⟩ := Od.2 ws.length es (by omega) me
  obtain ⟨wy, ew⟩ := Wy.2 ws.length es fs (by omega) O
  refine ⟨.lst (fs.map D.int), wy, ?_⟩
  generalize hWs : D.tup (ws.map wD) = Wd
  have pl : pLen [Wd] = some (.dat (.int (ws.length : Int))) := by rw [← hWs]; simp [pLen]
  have it1 : pIsi "tuple" [Wd] = some (.dat (.bl true)) := by rw [← hWs]; rfl
  have gs1 : gSeq [Wd] = some (ws.map wD) := by rw [← hWs]; rfl
  generalize hEs : D.tup (es.map eD) = Ed
  have it2 : pIsi "tuple" [Ed] = some (.dat (.bl true)) := by rw [← hEs]; rfl
  have gs2 : gSeq [Ed] = some (es.map eD) := by rw [← hEs]; rfl
  have lc1 := lc_one_map (Γ := [.mt false (.obj "Jobs" [] []), .dat Wd, .dat Ed, .no, .no, .no, .no]) (g := gSeq) (as := .cons (.var 1) .nil) (j := 3) (e := .call g.f_is_window (.cons (.var 3) .nil)) (ls := [.dat Wd]) (f := fun _ => D.bl true) (by simp) rfl rfl gs1 (by rw [List.length_map]; unfold LIM; omega) rfl (fun x hx => by
    obtain ⟨w, hw, rfl⟩ := List.mem_map.mp hx
    have c := fun Γ => call_d1 (Γ := Γ) W.1 (W.2 w (mw w hw))
    simp [c])
  have lc2 := lc_one_map (Γ := [.mt false (.obj "Jobs" [] []), .dat Wd, .dat Ed, .no, .no, .no, .no]) (g := gSeq) (as := .cons (.var 2) .nil) (j := 4) (e := .call g.f_is_edge (.cons (.prim pLen (.cons (.var 1) .nil)) (.cons (.var 4) .nil))) (ls := [.dat Ed]) (f := fun _ => D.bl true) (by simp) rfl rfl gs2 (by rw [List.length_map]; unfold LIM; omega) rfl (fun x hx => by
    obtain ⟨e, he, rfl⟩ := List.mem_map.mp hx
    obtain ⟨a1, a2, a3, a4, a5⟩ := me.rng e he
    obtain ⟨r, hr⟩ := me.acy
    have ne : e.1 ≠ e.2.1 := fun z => by have := hr e he; rw [z] at this; omega
    have c := fun Γ => call_d2 (Γ := Γ) Eg.1 (Eg.2 (ws.length : Int) e a1 a2 a3 a4 ne a5)
    simp [pl, c])
  have chk : ∀ (i : Nat) (d : D) (t : Tm) (ls : List D), [Slot.mt false (.obj "Jobs" [] []), .dat Wd, .dat Ed, .no, .no, .no, .no][i]? = some (.dat d) → pIsi "tuple" [d] = some (.dat (.bl true)) → ev t [.mt false (.obj "Jobs" [] []), .dat Wd, .dat Ed, .no, .no, .no, .no] = .ok (.new (.lst ls)) [.mt false (.obj "Jobs" [] []), .dat Wd, .dat Ed, .no, .no, .no, .no] → pAll [.lst ls] = some (.dat (.bl true)) →
      ex 1000 (.ite (.or (.not (.prim pTru (.cons (.prim (pIsi "tuple") (.cons (.var i) .nil)) .nil))) (.not (.prim pTru (.cons (.prim pAll (.cons t .nil)) .nil)))) (.cons .nev .nil) .nil) [.mt false (.obj "Jobs" [] []), .dat Wd, .dat Ed, .no, .no, .no, .no] = .ok .nx [.mt false (.obj "Jobs" [] []), .dat Wd, .dat Ed, .no, .no, .no, .no] := fun i d t ls hi h1 h2 h3 => by
    refine (ite_f ?_).trans exs_nil
    rw [ev_or, ev_not, ev_prim, evA_cons, ev_prim, evA_cons, ev_var, hi]
    simp [h1, h2, h3]
  have s1 := chk 1 Wd _ _ rfl it1 lc1 (by rw [List.map_map]; exact all_true ws)
  have s2 := chk 2 Ed _ _ rfl it2 lc2 (by rw [List.map_map]; exact all_true es)
  have gp := Gp.2 _ es me (by omega)
  rw [hEs] at gp
  have c3 := fun Γ => call_d1 (Γ := Γ) Gp.1 gp
  have s3 : ex 1000 (.set 5 (.call g.f_gaps_of (.cons (.var 2) .nil))) [.mt false (.obj "Jobs" [] []), .dat Wd, .dat Ed, .no, .no, .no, .no] = .ok .nx [.mt false (.obj "Jobs" [] []), .dat Wd, .dat Ed, .no, .no, .mt true (gapD es), .no] := by
    simp [c3, store]
  have c4 : evCall g.f_onward_order [.dat (.int (ws.length : Int)), .ref 5] [.mt false (.obj "Jobs" [] []), .dat Wd, .dat Ed, .no, .no, .mt true (gapD es), .no] = .ok o.vl [.mt false (.obj "Jobs" [] []), .dat Wd, .dat Ed, .no, .no, .dat (gapD es), .no] := by
    rcases ho with rfl | rfl <;> simp [evCall, res, Od.1, ioIx, lent, eo, isMt, Ou.scal, MP.scal, freezeA, freeze1, putA]
  have s4 : ∃ s6, Sl s6 (.lst (fs.map D.int)) ∧ ex 1000 (.set 6 (.call g.f_onward_order (.cons (.prim pLen (.cons (.var 1) .nil)) (.cons (.var 5) .nil)))) [.mt false (.obj "Jobs" [] []), .dat Wd, .dat Ed, .no, .no, .mt true (gapD es), .no] = .ok .nx [.mt false (.obj "Jobs" [] []), .dat Wd, .dat Ed, .no, .no, .dat (gapD es), s6] := by
    rcases ho with rfl | rfl
    · exact ⟨_, .inl rfl, by simp [pl, c4, store]⟩
    · exact ⟨_, .inr rfl, by simp [pl, c4, store]⟩
  obtain ⟨s6, q6, s4⟩ := s4
  have s5 : ex 1000 (.ite (.prim (pCmpT .Is) (.cons (.var 6) (.cons (.con .non) .nil))) (.cons .nev .nil) .nil) [.mt false (.obj "Jobs" [] []), .dat Wd, .dat Ed, .no, .no, .dat (gapD es), s6] = .ok .nx [.mt false (.obj "Jobs" [] []), .dat Wd, .dat Ed, .no, .no, .dat (gapD es), s6] := by
    have nn : MP.isNon (.lst (fs.map D.int)) = false := rfl
    rcases q6 with rfl | rfl <;> simp [res, nn]
  have s6' : ex 1000 (.ite (.prim (pCmpT .Gt) (.cons (.prim pLen (.cons (.var 1) .nil)) (.cons (.con (.int 40)) .nil))) (.cons .nev .nil) .nil) [.mt false (.obj "Jobs" [] []), .dat Wd, .dat Ed, .no, .no, .dat (gapD es), s6] = .ok .nx [.mt false (.obj "Jobs" [] []), .dat Wd, .dat Ed, .no, .no, .dat (gapD es), s6] := by
    have : decide ((40 : Int) < ws.length) = false := decide_eq_false (by omega)
    simp [pl, this]
  have s7 : ex 1000 (.fld ["Jobs"] "own_windows" 0 (.var 1)) [.mt false (.obj "Jobs" [] []), .dat Wd, .dat Ed, .no, .no, .dat (gapD es), s6] = .ok .nx [.mt false (.obj "Jobs" ["own_windows"] [Wd]), .dat Wd, .dat Ed, .no, .no, .dat (gapD es), s6] := by
    simp [isMt, putN]
  have s8 : ex 1000 (.fld ["Jobs"] "own_gaps" 0 (.var 5)) [.mt false (.obj "Jobs" ["own_windows"] [Wd]), .dat Wd, .dat Ed, .no, .no, .dat (gapD es), s6] = .ok .nx [.mt false (.obj "Jobs" ["own_windows", "own_gaps"] [Wd, gapD es]), .dat Wd, .dat Ed, .no, .no, .dat (gapD es), s6] := by
    have n1 : ¬ (Str.ofString "own_windows" = Str.ofString "own_gaps") := by decide +kernel
    simp [isMt, putN, n1]
  have s9 : ex 1000 (.fld ["Jobs"] "own_order" 0 (.var 6)) [.mt false (.obj "Jobs" ["own_windows", "own_gaps"] [Wd, gapD es]), .dat Wd, .dat Ed, .no, .no, .dat (gapD es), s6] = .ok .nx [.mt false (.obj "Jobs" ["own_windows", "own_gaps", "own_order"] [Wd, gapD es, .lst (fs.map D.int)]), .dat Wd, .dat Ed, .no, .no, .dat (gapD es), .dat (.lst (fs.map D.int))] := by
    have n1 : ¬ (Str.ofString "own_windows" = Str.ofString "own_order") := by decide +kernel
    have n2 : ¬ (Str.ofString "own_gaps" = Str.ofString "own_order") := by decide +kernel
    rcases q6 with rfl | rfl <;> simp [isMt, putN, n1, n2, esc]
  have c10 := fun Γ => call_d3 (Γ := Γ) Wy.1 ew
  have s10 : ex 1000 (.fld ["Jobs"] "own_ways" 0 (.call g.f_ways_by (.cons (.prim pLen (.cons (.var 1) .nil)) (.cons (.var 5) (.cons (.var 6) .nil))))) [.mt false (.obj "Jobs" ["own_windows", "own_gaps", "own_order"] [Wd, gapD es, .lst (fs.map D.int)]), .dat Wd, .dat Ed, .no, .no, .dat (gapD es), .dat (.lst (fs.map D.int))] = .ok .nx [.mt false (.obj "Jobs" ["own_windows", "own_gaps", "own_order", "own_ways"] [Wd, gapD es, .lst (fs.map D.int), wy]), .dat Wd, .dat Ed, .no, .no, .dat (gapD es), .dat (.lst (fs.map D.int))] := by
    have n1 : ¬ (Str.ofString "own_windows" = Str.ofString "own_ways") := by decide +kernel
    have n2 : ¬ (Str.ofString "own_gaps" = Str.ofString "own_ways") := by decide +kernel
    have n3 : ¬ (Str.ofString "own_order" = Str.ofString "own_ways") := by decide +kernel
    simp [isMt, pl, c10, putN, n1, n2, n3]
  have h1 : exs 1000 (tm_c_Jobs___init__ g) [.mt false (.obj "Jobs" [] []), .dat Wd, .dat Ed, .no, .no, .no, .no] = .ok .nx [.mt false (.obj "Jobs" ["own_windows", "own_gaps", "own_order", "own_ways"] [Wd, gapD es, .lst (fs.map D.int), wy]), .dat Wd, .dat Ed, .no, .no, .dat (gapD es), .dat (.lst (fs.map D.int))] := by
    unfold tm_c_Jobs___init__
    rw [exs_nx s1, exs_nx s2, exs_nx s3, exs_nx s4, exs_nx s5, exs_nx s6', exs_nx s7, exs_nx s8, exs_nx s9, exs_nx s10, exs_nil]
  unfold jobD
  rw [hWs]
  exact (r_c_Jobs___init__ g _).trans (runF_nx h1 rfl rfl)
end Lw

end
-- Q21
section
namespace Lw
open PySem L2 MP
theorem mk_ok {f : Fn} (I : InitOk f) : (mkF "Jobs" f).io = [false, false] ∧ ∀ ws es, Mod ws es → ∃ o w, (mkF "Jobs" f).F [.tup (ws.map wD), .tup (es.map eD)] = .ok (.new (jobD ws es o w)) [] := by
  obtain ⟨io, I⟩ := I
  refine ⟨by simp [mkF, io], fun ws es M => ?_⟩
  obtain ⟨o, w, e⟩ := I ws es M
  exact ⟨o, w, by simp [mkF, io, e]⟩
theorem mk_ok1 {f : Fn} (I : InitOk f) : (mkF "Jobs" (dflF f 2 [.tup []])).io = [false] ∧ ∀ ws, Mod ws [] → ∃ o w, (mkF "Jobs" (dflF f 2 [.tup []])).F [.tup (ws.map wD)] = .ok (.new (jobD ws [] o w)) [] := by
  obtain ⟨io, I⟩ := I
  refine ⟨by simp [mkF, dflF, io], fun ws M => ?_⟩
  obtain ⟨o, w, e⟩ := I ws [] M
  simp only [List.map_nil] at e
  exact ⟨o, w, by simp [mkF, dflF, io, e]⟩
theorem fld_w (ws es o w) : pFld ["Jobs"] "own_windows" [jobD ws es o w] = some (.dat (.tup (ws.map wD))) := by
  simp [pFld, jobD, fldD]
theorem fld_g (ws es o w) : pFld ["Jobs"] "own_gaps" [jobD ws es o w] = some (.dat (gapD es)) := by
  have n1 : ¬ (Str.ofString "own_gaps" = Str.ofString "own_windows") := by decide +kernel
  simp [pFld, jobD, fldD, n1]
def WnsOk (f : Fn) : Prop := f.io = [false] ∧ ∀ ws es o w, f.F [jobD ws es o w] = .ok (.dat (.tup (ws.map wD))) []
theorem wns_ok (g : Fs) : WnsOk (step g).c_Jobs_windows := by
  refine ⟨rfl, fun ws es o w => ?_⟩
  have h1 : exs 1000 (tm_c_Jobs_windows g) [.dat (jobD ws es o w)] = .ok (.rt (.dat (.tup (ws.map wD)))) [.dat (jobD ws es o w)] := by
    unfold tm_c_Jobs_windows
    simp [fld_w]
  exact (r_c_Jobs_windows g _).trans (runF_rt h1 rfl rfl)
def EdsOk (f : Fn) : Prop := f.io = [false] ∧ ∀ ws es o w, Mod ws es → f.F [jobD ws es o w] = .ok (.dat (.tup (es.map eD))) []
theorem eds_ok {g : Fs} (Mv : MovOk g.f_moved_edges) : EdsOk (step g).c_Jobs_edges := by
  refine ⟨rfl, fun ws es o w M => ?_⟩
  have el := M.edg.len (by have := M.few; omega)
  have c := fun Γ => call_d2 (Γ := Γ) Mv.1 (Mv.2 es el)
  have h1 : exs 1000 (tm_c_Jobs_edges g) [.dat (jobD ws es o w)] = .ok (.rt (.dat (.tup (es.map eD)))) [.dat (jobD ws es o w)] := by
    unfold tm_c_Jobs_edges
    simp [fld_g, c]
  exact (r_c_Jobs_edges g _).trans (runF_rt h1 rfl rfl)
theorem set_self {Γ : List Slot} {i : Nat} {s : Slot} (h : Γ[i]? = some s) : Γ.set i s = Γ := by
  obtain ⟨hl, rfl⟩ := List.getElem?_eq_some_iff.mp h
  exact List.set_getElem_self hl
/-- a thing at slot i that a call may freeze -/
theorem frz {f : Fn} {d : D} {o : Ou} {Γ : List Slot} {i : Nat} {s : Slot} {ls : List Vl} {ds : List D} (hs : Sl s d) (hi : Γ[i]? = some s) (io : f.io = false :: ls.map fun _ => false) (hd : resA Γ ls = some ds) (hl : lent Γ (ls.map fun _ => false) ls = []) (hx : ioIx (ls.map fun _ => false) ls = some []) (h : f.F (d :: ds) = .ok o []) : ∃ s', Sl s' d ∧ evCall f (.ref i :: ls) Γ = .ok o.vl (Γ.set i s') := by
  have hr : res Γ (.ref i) = some d := by rcases hs with rfl | rfl <;> simp [res, hi]
  rcases hs with rfl | rfl
  · refine ⟨_, .inl rfl, ?_⟩
    rw [set_self hi]
    simp [evCall, ioIx, io, hi, hr, hd, h, lent, hl, hx, putA, isMt]
  · by_cases z : o.scal = true ∧ (noDct Γ i = true)
    · refine ⟨_, .inr rfl, ?_⟩
      rw [set_self hi]
      simp [evCall, ioIx, io, hi, hr, hd, h, lent, hl, hx, putA, isMt, z.1, z.2]
    · refine ⟨_, .inl rfl, ?_⟩
      simp [evCall, ioIx, io, hi, hr, hd, h, lent, hl, hx, putA, isMt, freezeA, freeze1, z]
      try (intro z1 z2; exact absurd ⟨z1, z2⟩ z)
theorem frz1 {f : Fn} {d : D} {o : Ou} {Γ : List Slot} {i : Nat} {s : Slot} (hs : Sl s d) (hi : Γ[i]? = some s) (io : f.io = [false]) (h : f.F [d] = .ok o []) : ∃ s', Sl s' d ∧ evCall f [.ref i] Γ = .ok o.vl (Γ.set i s') := frz hs hi io rfl rfl rfl h
theorem frz3 {f : Fn} {d e e' : D} {o : Ou} {Γ : List Slot} {i : Nat} {s : Slot} (hs : Sl s d) (hi : Γ[i]? = some s) (io : f.io = [false, false, false]) (h : f.F [d, e, e'] = .ok o []) : ∃ s', Sl s' d ∧ evCall f [.ref i, .dat e, .dat e'] Γ = .ok o.vl (Γ.set i s') := frz (ls := [.dat e, .dat e']) hs hi io rfl rfl rfl h
theorem frz2n {f : Fn} {d e : D} {o : Ou} {Γ : List Slot} {i : Nat} {s : Slot} (hs : Sl s d) (hi : Γ[i]? = some s) (io : f.io = [false, false]) (h : f.F [d, e] = .ok o []) : ∃ s', Sl s' d ∧ evCall f [.ref i, .new e] Γ = .ok o.vl (Γ.set i s') := frz (ls := [.new e]) hs hi io rfl rfl rfl h
/-- properties -/
theorem nox {f : Fn} {ds : List D} {o : Ou} {ios : List D} (h : f.F ds = .ok o ios) : (noxF f).F ds = .ok o ios := by
  simp [noxF, h]
theorem sel_w (g : Fs) (ws es o w) : selP (pr_windows g) (jobD ws es o w) = some (noxF g.c_Jobs_windows) := by
  simp [selP, jobD, pr_windows, List.lookup]
theorem sel_e (g : Fs) (ws es o w) : selP (pr_edges g) (jobD ws es o w) = some (noxF g.c_Jobs_edges) := by
  simp [selP, jobD, pr_edges, List.lookup]
theorem sel_m (g : Fs) (ws es o w) : selM "with_windows_in" (me_with_windows_in_1 g) (jobD ws es o w) = some g.c_Jobs_with_windows_in := by
  have n1 : (["own_windows", "own_gaps", "own_order", "own_ways"] : List Str).contains (Str.ofString "with_windows_in") = false := by decide +kernel
  simp only [selM, jobD]
  rw [n1]
  simp [me_with_windows_in_1, List.lookup]
end Lw

end
-- Q22
section
namespace Lw
open PySem L2 MP
def rI (n : Nat) : List Int := (List.range n).map fun i : Nat => (i : Int)
theorem rI_succ (n : Nat) : rI (n + 1) = rI n ++ [(n : Int)] := by simp [rI, List.range_succ]
theorem rI_not (n : Nat) : (n : Int) ∉ rI n := by simp [rI]; omega
/-- windows by their numbers -/
def nwD (ws : List (Int × Int)) : D := .dct ((rI ws.length).map D.int) (ws.map wD)
def enD (k : Nat) : List (Int × Int) → List D
  | [] => []
  | w :: ws => .tup [.int (k : Int), wD w] :: enD (k + 1) ws
theorem enD_len (k : Nat) (ws) : (enD k ws).length = ws.length := by
  induction ws generalizing k with
  | nil => rfl
  | cons w ws ih => simp [enD, ih]
theorem enD_eq (ws : List (Int × Int)) : ∀ k : Nat, (ws.map wD).mapIdx (fun i d => D.tup [.int ((i + k : Nat) : Int), d]) = enD k ws := by
  induction ws with
  | nil => intro k; rfl
  | cons w ws ih =>
    intro k
    have := ih (k + 1)
    simp only [List.map_cons, List.mapIdx_cons, enD, Nat.zero_add]
    rw [← this]
    congr 1
    congr 1
    funext i d
    rw [show i + 1 + k = i + (k + 1) from by omega]
theorem gen_ws (ws : List (Int × Int)) : gEnB [.tup (ws.map wD)] = some (enD 0 ws) := by
  rw [← enD_eq]; rfl
theorem enD_get (ws : List (Int × Int)) (k : Nat) {x : D} (h : x ∈ enD k ws) : ∃ i, ∃ hi : i < ws.length, x = .tup [.int ((k + i : Nat) : Int), wD ws[i]] := by
  induction ws generalizing k with
  | nil => cases h
  | cons w ws ih =>
    rcases List.mem_cons.mp h with rfl | h
    · exact ⟨0, by simp, rfl⟩
    · obtain ⟨i, hi, e⟩ := ih (k + 1) h
      exact ⟨i + 1, by simpa using hi, by rw [e, show k + 1 + i = k + (i + 1) from by omega]; rfl⟩
theorem enD_map (f : D → D) (ws us : List (Int × Int)) (k : Nat) (hl : ws.length = us.length) (h : ∀ i (h1 : i < ws.length) (h2 : i < us.length), f (.tup [.int ((k + i : Nat) : Int), wD ws[i]]) = wD us[i]) : (enD k ws).map f = us.map wD := by
  induction ws generalizing k us with
  | nil => cases us with | nil => rfl | cons => simp at hl
  | cons w ws ih =>
    cases us with
    | nil => simp at hl
    | cons u us =>
      simp only [enD, List.map_cons]
      rw [ih us (k + 1) (by simpa using hl) fun i h1 h2 => by
        have := h (i + 1) (by simpa using h1) (by simpa using h2)
        rw [show k + 1 + i = k + (i + 1) from by omega]
        simpa using this]
      have := h 0 (by simp) (by simp)
      simp at this
      rw [this]
theorem val_rng (vs : List D) : ∀ (s j : Nat), j < vs.length → valD ((List.range' s vs.length).map fun i : Nat => D.int (i : Int)) vs (.int ((s + j : Nat) : Int)) = vs[j]? := by
  induction vs with
  | nil => intro s j h; simp at h
  | cons v vs ih =>
    intro s j h
    simp only [List.length_cons, List.range'_succ, List.map_cons, valD]
    cases j with
    | zero => simp [kEq, dKey]
    | succ j =>
      have := ih (s + 1) j (by simpa using h)
      rw [show s + 1 + j = s + (j + 1) from by omega] at this
      rw [this]
      have ne : kEq (D.int (s : Int)) (.int ((s + (j + 1) : Nat) : Int)) = false := by
        simp [kEq, dKey]; omega
      rw [ne, if_neg (by decide)]
      rfl
theorem get_nw (ws : List (Int × Int)) (i : Nat) (h : i < ws.length) (d : D) (hd : imm d = true) : pDGet [nwD ws, .int (i : Int), d] = some (.dat (wD ws[i])) := by
  have e : valD ((rI ws.length).map D.int) (ws.map wD) (.int (i : Int)) = some (wD ws[i]) := by
    have := val_rng (ws.map wD) 0 i (by simpa using h)
    simp only [List.length_map, ← List.range_eq_range', Nat.zero_add] at this
    unfold rI
    rw [List.map_map]
    refine Eq.trans this ?_
    simp [h]
  unfold nwD
  simp only [pDGet]
  rw [if_pos ⟨ask_int _ _, hd⟩, e]
  rfl
def ChgOk (f : Fn) : Prop := f.io = [false, false] ∧ ∀ ws es o w us, Mod ws es → Mod us es → ws.length = us.length → ∃ o' w', f.F [jobD ws es o w, nwD us] = .ok (.new (jobD us es o' w')) []
theorem chg_ok {g : Fs} (I : InitOk g.c_Jobs___init__) (E : EdsOk g.c_Jobs_edges) : ChgOk (step g).c_Jobs_with_windows_in := by
  refine ⟨rfl, fun ws es o w us M M' hl => ?_⟩
  obtain ⟨mi, mk⟩ := mk_ok I
  obtain ⟨o', w', mk⟩ := mk us es M'
  refine ⟨o', w', ?_⟩
  have s1 : ev (.lc gEnB (.cons (.prim (pFld ["Jobs"] "own_windows") (.cons (.var 0) .nil)) .nil) (.cons (.nm 2) (.cons (.nm 3) .nil)) [2, 3] (.con (.bl true)) (.rcv isDct pDGet (.var 1) (.cons (.var 2) (.cons (.var 3) .nil)))) [.dat (jobD ws es o w), .dat (nwD us), .no, .no] = .ok (.new (.lst (us.map wD))) [.dat (jobD ws es o w), .dat (nwD us), .no, .no] := by
    have l1 := lc_map (ec := ev (.con (.bl true))) (ee := ev (.rcv isDct pDGet (.var 1) (.cons (.var 2) (.cons (.var 3) .nil)))) (tg := .cons (.nm 2) (.cons (.nm 3) .nil)) (own := [2, 3]) (Γ := [.dat (jobD ws es o w), .dat (nwD us), .no, .no]) (xs := enD 0 ws) (f := fun x => match x with
      | .tup [.int i, d] => wD (us[i.toNat]?.getD (0, 0))
      | _ => .non) (fun x hx => by
        obtain ⟨i, hi, rfl⟩ := enD_get ws 0 hx
        have h2 : i < us.length := by omega
        have gg := get_nw us i h2 (wD ws[i]) rfl
        have hd : isDct (nwD us) = true := rfl
        refine ⟨_, rfl, ev_con, ?_, rfl⟩
        simp [res, hd, gg, h2])
    have := lcS (Γ := [.dat (jobD ws es o w), .dat (nwD us), .no, .no]) (g := gEnB) (as := .cons (.prim (pFld ["Jobs"] "own_windows") (.cons (.var 0) .nil)) .nil) (ls := [.dat (.tup (ws.map wD))]) (by simp [fld_w]) rfl rfl (gen_ws ws) (by rw [enD_len]; have := M.few; unfold LIM; omega) rfl l1
    rw [enD_map _ ws us 0 hl fun i h1 h2 => by simp [h2]] at this
    exact this
  have c1 := fun Γ => call_d1 (Γ := Γ) (f := noxF g.c_Jobs_edges) E.1 (nox (E.2 ws es o w M))
  have c2 := fun Γ => call_d2 (Γ := Γ) mi mk
  have fin : ∀ t, ev t [.dat (jobD ws es o w), .dat (nwD us), .no, .no] = .ok (.new (.lst (us.map wD))) [.dat (jobD ws es o w), .dat (nwD us), .no, .no] → ex 1000 (.ret (.call (mkF "Jobs" g.c_Jobs___init__) (.cons (.prim pTup (.cons t .nil)) (.cons (.meth (selP (pr_edges g)) (.var 0) .nil) .nil)))) [.dat (jobD ws es o w), .dat (nwD us), .no, .no] = .ok (.rt (.new (jobD us es o' w'))) [.dat (jobD ws es o w), .dat (nwD us), .no, .no] := fun t ht => by
    simp [ht, pTup, sel_e, c1, c2]
  have h1 : exs 1000 (tm_c_Jobs_with_windows_in g) [.dat (jobD ws es o w), .dat (nwD us), .no, .no] = .ok (.rt (.new (jobD us es o' w'))) [.dat (jobD ws es o w), .dat (nwD us), .no, .no] := exs_rt (fin _ s1)
  exact (r_c_Jobs_with_windows_in g _).trans (runF_rt h1 rfl rfl)
end Lw

end
-- Q23
section
namespace Lw
open PySem L2 MP
def pW (w : Int × Int) : PyData := .tuple [.int w.1, .int w.2]
def pE (e : E3) : PyData := .tuple [.int e.1, .int e.2.1, .int e.2.2]
theorem toPy_w (w) : toPy (wD w) = some (pW w) := rfl
theorem toPy_e (e) : toPy (eD e) = some (pE e) := rfl
theorem toPy_ws : ∀ ws : List (Int × Int), toPyA (ws.map wD) = some (ws.map pW) ∧ PyData.canLayAll0 (ws.map pW) = true ∧ PyData.depthAll (ws.map pW) ≤ 1
  | [] => ⟨rfl, rfl, by decide⟩
  | w :: ws => by
    obtain ⟨h1, h2, h3⟩ := toPy_ws ws
    refine ⟨by simp [toPyA, toPy_w, h1], by simp [pW, PyData.canLayAll0, PyData.canLay0, h2], ?_⟩
    simp [pW, PyData.depthAll, PyData.depth, h3]
theorem toPy_es : ∀ es : List E3, toPyA (es.map eD) = some (es.map pE) ∧ PyData.canLayAll0 (es.map pE) = true ∧ PyData.depthAll (es.map pE) ≤ 1
  | [] => ⟨rfl, rfl, by decide⟩
  | e :: es => by
    obtain ⟨h1, h2, h3⟩ := toPy_es es
    refine ⟨by simp [toPyA, toPy_e, h1], by simp [pE, PyData.canLayAll0, PyData.canLay0, h2], ?_⟩
    simp [pE, PyData.depthAll, PyData.depth, h3]
theorem shp_ws (ws : List (Int × Int)) : shp (.tup (ws.map wD)) = some (.tuple (ws.map pW)) := by
  obtain ⟨h1, h2, h3⟩ := toPy_ws ws
  simp [shp, toPy, h1, SeqAt.shaped, PyData.canLay0, h2, PyData.depth]
  omega
theorem shp_es (es : List E3) : shp (.tup (es.map eD)) = some (.tuple (es.map pE)) := by
  obtain ⟨h1, h2, h3⟩ := toPy_es es
  simp [shp, toPy, h1, SeqAt.shaped, PyData.canLay0, h2, PyData.depth]
  omega
theorem eq_self {xs : List D} {p : PyData} (h : shp (.tup xs) = some p) : pCmpT .Eq [.tup xs, .tup xs] = some (.dat (.bl true)) := by
  have e := SeqAt.eqv_refl p (SeqAt.canLay_of_shaped (shp_ok h).2)
  have : pCmp .Eq [.tup xs, .tup xs] = some (.dat (.bl true)) := by
    simp [pCmp, pEqF, pEq, h, e]
  unfold pCmpT orP
  dsimp only
  rw [this]
theorem ne_self {xs : List D} {p : PyData} (h : shp (.tup xs) = some p) : pCmpT .NotEq [.tup xs, .tup xs] = some (.dat (.bl false)) := by
  have e := SeqAt.eqv_refl p (SeqAt.canLay_of_shaped (shp_ok h).2)
  have : pCmp .NotEq [.tup xs, .tup xs] = some (.dat (.bl false)) := by
    simp [pCmp, pEq, h, e]
  unfold pCmpT orP
  dsimp only
  rw [this]
theorem ne_str {x : Str} (h : PyData.strOk x = true) : pCmpT .NotEq [.str x, .str x] = some (.dat (.bl false)) := by
  have := neStr h
  unfold pCmpT orP
  dsimp only
  rw [this]
theorem val_gap : ∀ (es fs : List E3), (fs ++ es).Pairwise ltP → subI ((fs ++ es).map kP) ((fs ++ es).map vP) (es.map kP) (es.map vP) = true
  | [], fs, _ => rfl
  | e :: es, fs, h => by
    have vl : valD ((fs ++ e :: es).map kP) ((fs ++ e :: es).map vP) (kP e) = some (vP e) := by
      clear val_gap
      induction fs with
      | nil => simp [valD, kEq_kP]
      | cons f fs ih =>
        have h' : (f :: (fs ++ e :: es)).Pairwise ltP := h
        have hf := (List.pairwise_cons.mp h').1 e (by simp)
        have ne : kEq (kP f) (kP e) = false := by
          rw [kEq_kP]
          apply decide_eq_false
          rintro ⟨a, b⟩
          rcases hf with h | ⟨_, h⟩ <;> omega
        simp only [List.cons_append, List.map_cons, valD, ne]
        exact ih (List.pairwise_cons.mp h').2
    have := val_gap es (fs ++ [e]) (by simpa using h)
    rw [List.append_assoc] at this
    simp only [List.map_cons, subI, vP]
    rw [vl]
    simp only [vP, beq_self_eq_true, Bool.true_and]
    exact this
theorem gap_eq {es : List E3} (h : es.Pairwise ltP) : pCmpT .Eq [gapD es, gapD es] = some (.dat (.bl true)) := by
  have a1 : (es.map kP).all isTupB = true := by simp [kP, isTupB]
  have a2 : (es.map vP).all isI = true := by simp [vP, isI]
  have s := val_gap es [] h
  simp only [List.nil_append] at s
  have : pCmp .Eq [gapD es, gapD es] = none := by
    simp [pCmp, pEqF, pEq, gapD, shp, toPy]
  unfold pCmpT orP
  dsimp only
  rw [this]
  unfold gapD
  simp only [pDEq, a1, a2, s]
  simp
def EqOk' (f : Fn) : Prop := f.io = [false, false] ∧ ∀ ws es o w o' w', Mod ws es → f.F [jobD ws es o w, jobD ws es o' w'] = .ok (.dat (.bl true)) []
theorem eq_ok (g : Fs) : EqOk' (step g).c_Jobs___eq__ := by
  refine ⟨rfl, fun ws es o w o' w' M => ?_⟩
  have ic : pIsC [("Jobs", true)] [jobD ws es o' w'] = some (.dat (.bl true)) := by simp [pIsC, jobD, List.lookup]
  have e1 := eq_self (shp_ws ws)
  have e2 := gap_eq M.edg.srt
  have h1 : exs 1000 (tm_c_Jobs___eq__ g) [.dat (jobD ws es o w), .dat (jobD ws es o' w')] = .ok (.rt (.dat (.bl true))) [.dat (jobD ws es o w), .dat (jobD ws es o' w')] := by
    unfold tm_c_Jobs___eq__
    simp [ic, fld_w, fld_g, e1, e2]
  exact (r_c_Jobs___eq__ g _).trans (runF_rt h1 rfl rfl)
theorem eqT_ok {g : Fs} (E : EqOk' g.c_Jobs___eq__) : EqOk' (eqT (eqs g)) := by
  refine ⟨rfl, fun ws es o w o' w' M => ?_⟩
  have := E.2 ws es o w o' w' M
  unfold jobD at this ⊢
  simp [eqT, eqs, List.lookup, E.1, this]
end Lw

end
-- Q24
section
namespace Lw
open PySem L2 MP
inductive Wo | ln | bg | lt
def Wo.s : Wo → Str
  | .ln => "length"
  | .bg => "begin"
  | .lt => "late"
def Wo.least : Wo → Int
  | .ln => 1
  | _ => 0
def mnI (a b : Int) : Int := if b < a then b else a
def mxI (a b : Int) : Int := if b > a then b else a
/-- the window that a word and a number leave -/
def bw (k : Wo) (n : Int) (w : Int × Int) : Int × Int := match k with
  | .ln => (w.1, mnI w.2 (n - 1))
  | .bg => (mxI w.1 n, w.2)
  | .lt => (w.1, mnI (w.2 + n) 99)
theorem bw_win {k : Wo} {n : Int} {w : Int × Int} (h0 : k.least ≤ n) (h1 : n ≤ 100) (hw : Win w) : Win (bw k n w) := by
  obtain ⟨a, b, c, d⟩ := hw
  cases k <;> simp only [Wo.least] at h0 <;> simp only [bw, Win, mnI, mxI] <;> refine ⟨?_, ?_, ?_, ?_⟩ <;> first | omega | (split <;> omega)
theorem eq_str {x y : Str} (hx : PyData.strOk x = true) (hy : PyData.strOk y = true) : pCmp .Eq [.str x, .str y] = some (.dat (.bl (x == y))) := by
  have h1 : shp (.str x) = some (.str x) := by simp [shp, toPy, SeqAt.shaped, PyData.canLay0, PyData.depth, hx]
  have h2 : shp (.str y) = some (.str y) := by simp [shp, toPy, SeqAt.shaped, PyData.canLay0, PyData.depth, hy]
  simp [pCmp, pEqF, pEq, h1, h2, PyData.eqv]
theorem wo_ok (k : Wo) : PyData.strOk k.s = true := by cases k <;> decide +kernel
theorem eq_wo (k m : Wo) : pCmp .Eq [.str k.s, .str m.s] = some (.dat (.bl (k.s == m.s))) := eq_str (wo_ok k) (wo_ok m)
def Wo.ln? : Wo → Bool
  | .ln => true
  | _ => false
def Wo.bg? : Wo → Bool
  | .bg => true
  | _ => false
theorem eq_ln (k : Wo) : pCmp .Eq [.str k.s, .str "length"] = some (.dat (.bl k.ln?)) := by
  rw [show (Str.ofString "length") = Wo.ln.s from rfl, eq_wo, show (k.s == Wo.ln.s) = k.ln? from by cases k <;> decide +kernel]
theorem eq_bg (k : Wo) : pCmp .Eq [.str k.s, .str "begin"] = some (.dat (.bl k.bg?)) := by
  rw [show (Str.ofString "begin") = Wo.bg.s from rfl, eq_wo, show (k.s == Wo.bg.s) = k.bg? from by cases k <;> decide +kernel]
theorem pmin2 (a b : Int) : pMin [.int a, .int b] = some (.dat (.int (mnI a b))) := rfl
theorem pmax2 (a b : Int) : pMax [.int a, .int b] = some (.dat (.int (mxI a b))) := rfl
theorem pmin2l (a b : Int) : pMin [.lst [.int a, .int b]] = some (.dat (.int (mnI a b))) := rfl
theorem pmax2l (a b : Int) : pMax [.lst [.int a, .int b]] = some (.dat (.int (mxI a b))) := rfl
theorem isi_s (k : Wo) : pIsi "str" [.str k.s] = some (.dat (.bl true)) := rfl
theorem lk (k : Wo) : w_LEAST.lookup k.s = some k.least := by cases k <;> decide +kernel
theorem kin (k : Wo) : pKIn true w_LEAST [.str k.s] = some (.dat (.bl false)) := by simp [pKIn, lk]
theorem kix (k : Wo) : pKIx w_LEAST [.str k.s] = some (.dat (.int k.least)) := by simp [pKIx, lk]
def RqjOk (f : Fn) : Prop := f.io = [false] ∧ ∀ ws es o w, f.F [jobD ws es o w] = .ok (.dat .non) []
theorem rqj_ok (g : Fs) : RqjOk (step g).f_require_jobs := by
  refine ⟨rfl, fun ws es o w => ?_⟩
  have ic : pIsC [("Jobs", true)] [jobD ws es o w] = some (.dat (.bl true)) := by simp [pIsC, jobD, List.lookup]
  have h1 : exs 1000 (tm_f_require_jobs g) [.dat (jobD ws es o w)] = .ok .nx [.dat (jobD ws es o w)] := by
    unfold tm_f_require_jobs
    simp [ic]
  exact (r_f_require_jobs g _).trans (runF_nx h1 rfl rfl)
def RqwOk (f : Fn) : Prop := f.io = [false] ∧ ∀ k : Wo, f.F [.str k.s] = .ok (.dat .non) []
theorem rqw_ok (g : Fs) : RqwOk (step g).f_require_word := by
  refine ⟨rfl, fun k => ?_⟩
  have h1 : exs 1000 (tm_f_require_word g) [.dat (.str k.s)] = .ok .nx [.dat (.str k.s)] := by
    unfold tm_f_require_word
    simp [isi_s, kin]
  exact (r_f_require_word g _).trans (runF_nx h1 rfl rfl)
def NumOk (f : Fn) : Prop := f.io = [false, false] ∧ ∀ (k : Wo) (n : Int), k.least ≤ n → n ≤ 100 → f.F [.str k.s, .int n] = .ok (.dat (.bl true)) []
theorem num_ok {g : Fs} (B : BetwOk g.f_is_between) : NumOk (step g).f_is_number_for := by
  refine ⟨rfl, fun k n h0 h1 => ?_⟩
  have b := B.2 n k.least 100
  rw [decide_eq_true h0, decide_eq_true h1] at b
  have c := fun Γ => call_d3 (Γ := Γ) B.1 b
  have h1 : exs 1000 (tm_f_is_number_for g) [.dat (.str k.s), .dat (.int n)] = .ok (.rt (.dat (.bl true))) [.dat (.str k.s), .dat (.int n)] := by
    unfold tm_f_is_number_for
    simp [kix, c]
  exact (r_f_is_number_for g _).trans (runF_rt h1 rfl rfl)
def BwOk (f : Fn) : Prop := f.io = [false, false, false] ∧ ∀ (k : Wo) (n : Int) w, f.F [wD w, .str k.s, .int n] = .ok (.dat (wD (bw k n w))) []
theorem bw_ok (g : Fs) : BwOk (step g).f_bounded_window := by
  refine ⟨rfl, fun k n w => ?_⟩
  have py : ∀ d, pYes [d] = some (.dat (.bl true)) := fun _ => rfl
  have h1 : exs 1000 (tm_f_bounded_window g) [.dat (wD w), .dat (.str k.s), .dat (.int n), .no, .no] = .ok (.rt (.dat (wD (bw k n w)))) [.dat (wD w), .dat (.str k.s), .dat (.int n), .dat (.int w.1), .dat (.int w.2)] := by
    unfold tm_f_bounded_window
    have e1 := eq_ln k
    have e2 := eq_bg k
    cases k <;> simp [wD, bnd, py, e1, e2, Wo.ln?, Wo.bg?, pmin2l, pmax2l, dLst, dTup, show 2 ≤ LIM by decide, bw]
  exact (r_f_bounded_window g _).trans (runF_rt h1 rfl rfl)
end Lw

end
-- Q25
section
namespace Lw
open PySem L2 MP
theorem bdc_run {f : Fn} (B : BwOk f) (k : Wo) (n : Int) (s0 s3 : Slot) : ∀ (ws : List (Int × Int)) (i : Nat) (va : List (Int × Int)), va.length = i →
    dcLoop (ev (.con (.bl true))) (ev (.var 4)) (ev (.call f (.cons (.var 5) (.cons (.var 1) (.cons (.var 2) .nil))))) (.cons (.nm 4) (.cons (.nm 5) .nil)) [4, 5] (enD i ws) ((rI i).map D.int, va.map wD) [s0, .dat (.str k.s), .dat (.int n), s3, .no, .no] = .ok ((rI (i + ws.length)).map D.int, (va ++ ws.map (bw k n)).map wD) [s0, .dat (.str k.s), .dat (.int n), s3, .no, .no]
  | [], i, va, _ => by simp [enD, dcLoop]
  | w :: ws, i, va, hl => by
    have ih := bdc_run B k n s0 s3 ws (i + 1) (va ++ [bw k n w]) (by simp [hl])
    have pt : putD ((rI i).map D.int) (va.map wD) (.int (i : Int)) (wD (bw k n w)) kEq = ((rI (i + 1)).map D.int, (va ++ [bw k n w]).map wD) := by
      unfold putD
      rw [any_int, if_neg (by rw [decide_eq_false (rI_not i)]; decide), rI_succ]
      simp
    have c := fun Γ => call_d3 (Γ := Γ) B.1 (B.2 k n w)
    rw [enD, dcLoop]
    rw [show bnd (.cons (.nm 4) (.cons (.nm 5) .nil)) (.tup [.int (i : Int), wD w]) [s0, .dat (.str k.s), .dat (.int n), s3, .no, .no] = some [s0, .dat (.str k.s), .dat (.int n), s3, .dat (.int (i : Int)), .dat (wD w)] from by simp [bnd]]
    simp only [ev_con, Rs.nox, bind_ok]
    simp only [ev_var, List.getElem?_cons_succ, List.getElem?_cons_zero, Rs.nox, bind_ok, kK, if_true, ev_call, evA_cons, evA_nil, c, vl_dat, esc_dat, pt]
    rw [show wipeG [4, 5] [s0, .dat (.str k.s), .dat (.int n), s3, .dat (.int (i : Int)), .dat (wD w)] = [s0, .dat (.str k.s), .dat (.int n), s3, .no, .no] from rfl, ih]
    simp [Nat.add_assoc, Nat.add_comm 1]
def BinOk (f : Fn) : Prop := f.io = [false, false, false] ∧ ∀ ws es o w (k : Wo) (n : Int), Mod ws es → k.least ≤ n → n ≤ 100 → ∃ o' w', f.F [jobD ws es o w, .str k.s, .int n] = .ok (.new (jobD (ws.map (bw k n)) es o' w')) []
theorem mod_bw {ws es} {k : Wo} {n : Int} (M : Mod ws es) (h0 : k.least ≤ n) (h1 : n ≤ 100) : Mod (ws.map (bw k n)) es := by
  refine ⟨fun w hw => ?_, by simpa using M.few, by simpa using M.edg⟩
  obtain ⟨v, hv, rfl⟩ := List.mem_map.mp hw
  exact bw_win h0 h1 (M.win v hv)
theorem bin_ok {g : Fs} (B : BwOk g.f_bounded_window) (C : ChgOk g.c_Jobs_with_windows_in) : BinOk (step g).f_bounded_in := by
  refine ⟨rfl, fun ws es o w k n M h0 h1 => ?_⟩
  obtain ⟨o', w', e⟩ := C.2 ws es o w (ws.map (bw k n)) M (mod_bw M h0 h1) (by simp)
  refine ⟨o', w', ?_⟩
  have run := bdc_run B k n (.dat (jobD ws es o w)) .no ws 0 [] rfl
  rw [Nat.zero_add, List.nil_append] at run
  have s1 := ev_dc (Γ := [.dat (jobD ws es o w), .dat (.str k.s), .dat (.int n), .no, .no, .no]) (Γ1 := [.dat (jobD ws es o w), .dat (.str k.s), .dat (.int n), .no, .no, .no]) (Γ2 := [.dat (jobD ws es o w), .dat (.str k.s), .dat (.int n), .no, .no, .no]) (acc := ((rI ws.length).map D.int, (ws.map (bw k n)).map wD)) (g := gEnB) (as := .cons (.prim (pFld ["Jobs"] "own_windows") (.cons (.var 0) .nil)) .nil) (tg := .cons (.nm 4) (.cons (.nm 5) .nil)) (own := [4, 5]) (c := .con (.bl true)) (k := .var 4) (e := .call g.f_bounded_window (.cons (.var 5) (.cons (.var 1) (.cons (.var 2) .nil)))) (ls := [.dat (.tup (ws.map wD))]) (by simp [fld_w]) rfl (gen_ws ws) (by rw [enD_len]; have := M.few; unfold LIM; omega) rfl run
  have nw : D.dct ((rI ws.length).map D.int) ((ws.map (bw k n)).map wD) = nwD (ws.map (bw k n)) := by
    unfold nwD; rw [List.length_map]
  rw [nw] at s1
  have s2 := set_new (n := 1000) (i := 3) (Γ1 := [.dat (jobD ws es o w), .dat (.str k.s), .dat (.int n), .no, .no, .no]) s1 (by simp)
  have c : evCall g.c_Jobs_with_windows_in [.dat (jobD ws es o w), .ref 3] [.dat (jobD ws es o w), .dat (.str k.s), .dat (.int n), .mt true (nwD (ws.map (bw k n))), .no, .no] = .ok (.new (jobD (ws.map (bw k n)) es o' w')) [.dat (jobD ws es o w), .dat (.str k.s), .dat (.int n), .dat (nwD (ws.map (bw k n))), .no, .no] := by
    simp [evCall, res, C.1, ioIx, lent, e, isMt, Ou.scal, MP.scal, freezeA, freeze1, putA]
  have s3 : ex 1000 (.ret (.meth (selM "with_windows_in" (me_with_windows_in_1 g)) (.var 0) (.cons (.var 3) .nil))) [.dat (jobD ws es o w), .dat (.str k.s), .dat (.int n), .mt true (nwD (ws.map (bw k n))), .no, .no] = .ok (.rt (.new (jobD (ws.map (bw k n)) es o' w'))) [.dat (jobD ws es o w), .dat (.str k.s), .dat (.int n), .dat (nwD (ws.map (bw k n))), .no, .no] := by
    simp [sel_m, c]
  have h1 : exs 1000 (tm_f_bounded_in g) [.dat (jobD ws es o w), .dat (.str k.s), .dat (.int n), .no, .no, .no] = .ok (.rt (.new (jobD (ws.map (bw k n)) es o' w'))) [.dat (jobD ws es o w), .dat (.str k.s), .dat (.int n), .dat (nwD (ws.map (bw k n))), .no, .no] := (exs_nx s2).trans (exs_rt s3)
  exact (r_f_bounded_in g _).trans (runF_rt h1 rfl rfl)
theorem bou_ok {g : Fs} (J : RqjOk g.f_require_jobs) (Wd : RqwOk g.f_require_word) (N : NumOk g.f_is_number_for) (B : BinOk g.f_bounded_in) : BinOk (step g).f_bounded := by
  refine ⟨rfl, fun ws es o w k n M h0 h1 => ?_⟩
  obtain ⟨o', w', e⟩ := B.2 ws es o w k n M h0 h1
  refine ⟨o', w', ?_⟩
  have c1 := fun Γ => call_d1 (Γ := Γ) J.1 (J.2 ws es o w)
  have c2 := fun Γ => call_d1 (Γ := Γ) Wd.1 (Wd.2 k)
  have c3 := fun Γ => call_d2 (Γ := Γ) N.1 (N.2 k n h0 h1)
  have c4 := fun Γ => call_d3 (Γ := Γ) B.1 e
  have h1 : exs 1000 (tm_f_bounded g) [.dat (jobD ws es o w), .dat (.str k.s), .dat (.int n)] = .ok (.rt (.new (jobD (ws.map (bw k n)) es o' w'))) [.dat (jobD ws es o w), .dat (.str k.s), .dat (.int n)] := by
    unfold tm_f_bounded
    simp [c1, c2, c3, c4]
  exact (r_f_bounded g _).trans (runF_rt h1 rfl rfl)
def ObjOk (f : Fn) : Prop := f.io = [false] ∧ ∀ ws es, Mod ws es → ∃ o w, f.F [modD ws es] = .ok (.new (jobD ws es o w)) []
theorem obj_ok {g : Fs} (I : InitOk g.c_Jobs___init__) : ObjOk (step g).f__law_object := by
  refine ⟨rfl, fun ws es M => ?_⟩
  obtain ⟨mi, mk⟩ := mk_ok I
  obtain ⟨o, w, e⟩ := mk ws es M
  refine ⟨o, w, ?_⟩
  have c := fun Γ => call_d2 (Γ := Γ) mi e
  have h1 : exs 1000 (tm_f__law_object g) [.dat (modD ws es)] = .ok (.rt (.new (jobD ws es o w))) [.dat (modD ws es)] := by
    unfold tm_f__law_object
    simp [modD, c]
  exact (r_f__law_object g _).trans (runF_rt h1 rfl rfl)
end Lw

end
-- Q26
section
namespace Lw
open PySem L2 MP
theorem eqT_str {x y : Str} {b : Bool} (h : pCmp .Eq [.str x, .str y] = some (.dat (.bl b))) : pCmpT .Eq [.str x, .str y] = some (.dat (.bl b)) := by
  unfold pCmpT orP
  dsimp only
  rw [h]
def lbB : Ss := (.cons (.ite (.prim (pCmpT .Eq) (.cons (.var 1) (.cons (.con (.str "length")) .nil))) (.cons (.drop (.mth isL mApp 3 (.cons (.mk dTup (.cons (.var 4) (.cons (.prim pMin (.cons (.var 5) (.cons (.prim (pBin .Sub) (.cons (.var 2) (.cons (.con (.int 1)) .nil))) .nil))) .nil))) .nil)))
   .nil) (.cons (.ite (.prim (pCmpT .Eq) (.cons (.var 1) (.cons (.con (.str "begin")) .nil))) (.cons (.drop (.mth isL mApp 3 (.cons (.mk dTup (.cons (.prim pMax (.cons (.var 4) (.cons (.var 2) .nil))) (.cons (.var 5) .nil))) .nil)))
   .nil) (.cons (.drop (.mth isL mApp 3 (.cons (.mk dTup (.cons (.var 4) (.cons (.prim pMin (.cons (.prim (pBin .Add) (.cons (.var 5) (.cons (.var 2) .nil))) (.cons (.con (.int 99)) .nil))) .nil))) .nil)))
   .nil))
   .nil))
   .nil)
theorem lb_turn (s0 : Slot) (k : Wo) (n : Int) (w : Int × Int) (acc : List (Int × Int)) (ha : acc.length < 10000) :
    exs 1000 lbB [s0, .dat (.str k.s), .dat (.int n), .mt true (.lst (acc.map wD)), .dat (.int w.1), .dat (.int w.2)] = .ok .nx [s0, .dat (.str k.s), .dat (.int n), .mt true (.lst ((acc ++ [bw k n w]).map wD)), .dat (.int w.1), .dat (.int w.2)] := by
  have e1 := eqT_str (eq_ln k)
  have e2 := eqT_str (eq_bg k)
  have la : acc.length < LIM := by unfold LIM; omega
  unfold lbB
  cases k <;> simp [e1, e2, Wo.ln?, Wo.bg?, isL, pmin2, pmax2, dTup, show 2 ≤ LIM by decide, mApp, la, wD, bw]
theorem lb_loop (s0 : Slot) (k : Wo) (n : Int) : ∀ (ws acc : List (Int × Int)) (a4 a5 : Slot), acc.length + ws.length < 10000 → ∃ b4 b5,
    forLoop (exs 1000 lbB) (.cons (.nm 4) (.cons (.nm 5) .nil)) (ws.map wD) [s0, .dat (.str k.s), .dat (.int n), .mt true (.lst (acc.map wD)), a4, a5] = .ok .nx [s0, .dat (.str k.s), .dat (.int n), .mt true (.lst ((acc ++ ws.map (bw k n)).map wD)), b4, b5]
  | [], acc, a4, a5, _ => ⟨a4, a5, by simp [forLoop]⟩
  | w :: ws, acc, a4, a5, hl => by
    simp only [List.length_cons] at hl
    obtain ⟨b4, b5, e⟩ := lb_loop s0 k n ws (acc ++ [bw k n w]) (.dat (.int w.1)) (.dat (.int w.2)) (by simp; omega)
    refine ⟨b4, b5, ?_⟩
    rw [List.map_cons, forLoop, show bnd (.cons (.nm 4) (.cons (.nm 5) .nil)) (wD w) [s0, .dat (.str k.s), .dat (.int n), .mt true (.lst (acc.map wD)), a4, a5] = some [s0, .dat (.str k.s), .dat (.int n), .mt true (.lst (acc.map wD)), .dat (.int w.1), .dat (.int w.2)] from by simp [bnd, wD]]
    simp only [lb_turn s0 k n w acc (by omega), bind_ok]
    rw [e]
    simp
def LbOk (f : Fn) : Prop := f.io = [false, false, false] ∧ ∀ ws es (k : Wo) (n : Int), Mod ws es → f.F [modD ws es, .str k.s, .int n] = .ok (.dat (modD (ws.map (bw k n)) es)) []
theorem lb_ok (g : Fs) : LbOk (step g).f__law_bounded := by
  refine ⟨rfl, fun ws es k n M => ?_⟩
  obtain ⟨b4, b5, e⟩ := lb_loop (.dat (modD ws es)) k n ws [] .no .no (by have := M.few; simp; omega)
  have s1 : ex 1000 (.set 3 (.mk dLst .nil)) [.dat (modD ws es), .dat (.str k.s), .dat (.int n), .no, .no, .no] = .ok .nx [.dat (modD ws es), .dat (.str k.s), .dat (.int n), .mt true (.lst []), .no, .no] := by simp [dLst, store]
  have s2 := forS (n := 1000) (g := gSeq) (as := .cons (.prim (orP pIx pDIx) (.cons (.var 0) (.cons (.con (.int 0)) .nil))) .nil) (tg := .cons (.nm 4) (.cons (.nm 5) .nil)) (b := lbB) (ls := [.dat (.tup (ws.map wD))]) (ds := [.tup (ws.map wD)]) (xs := ws.map wD) (Γ := [.dat (modD ws es), .dat (.str k.s), .dat (.int n), .mt true (.lst []), .no, .no]) (by simp [modD]) rfl rfl rfl e
  rw [List.nil_append] at s2
  have s3 : ex 1000 (.ret (.mk dTup (.cons (.prim pTup (.cons (.var 3) .nil)) (.cons (.prim (orP pIx pDIx) (.cons (.var 0) (.cons (.con (.int 1)) .nil))) .nil)))) [.dat (modD ws es), .dat (.str k.s), .dat (.int n), .mt true (.lst ((ws.map (bw k n)).map wD)), b4, b5] = .ok (.rt (.dat (modD (ws.map (bw k n)) es))) [.dat (modD ws es), .dat (.str k.s), .dat (.int n), .mt true (.lst ((ws.map (bw k n)).map wD)), b4, b5] := by
    simp [res, pTup, dTup, show 2 ≤ LIM by decide, modD]
  have h1 : exs 1000 (tm_f__law_bounded g) [.dat (modD ws es), .dat (.str k.s), .dat (.int n), .no, .no, .no] = .ok (.rt (.dat (modD (ws.map (bw k n)) es))) [.dat (modD ws es), .dat (.str k.s), .dat (.int n), .mt true (.lst ((ws.map (bw k n)).map wD)), b4, b5] := (exs_nx s1).trans ((exs_nx s2).trans (exs_rt s3))
  exact (r_f__law_bounded g _).trans (runF_rt h1 rfl rfl)
end Lw

end
-- Q27
section
namespace Lw
open PySem L2 MP
def wdB (pk : Fn) : Ss := (.cons (.set 5 (.mk dLst (.cons (.mk dTup (.cons (.var 3) (.cons (.var 4) .nil))) (.cons (.mk dTup (.cons (.var 3) (.cons (.prim (pBin .Sub) (.cons (.con (.int 99)) (.cons (.var 4) .nil))) .nil))) (.cons (.mk dTup (.cons (.prim (pBin .Sub) (.cons (.con (.int 99)) (.cons (.var 4) .nil))) (.cons (.con (.int 99)) .nil))) (.cons (.mk dTup (.cons (.con (.int 100)) (.cons (.var 4) .nil))) .nil))))))
   (.cons (.drop (.mth isL mApp 2 (.cons (.prim (orP pIx pDIx) (.cons (.var 5) (.cons (.call pk (.cons (.var 0) (.cons (.mk dLst (.cons (.con (.int 0)) (.cons (.con (.int 0)) (.cons (.con (.int 0)) (.cons (.con (.int 0)) (.cons (.con (.int 1)) (.cons (.con (.int 2)) (.cons (.con (.int 3)) .nil)))))))) .nil))) .nil))) .nil)))
   .nil))
theorem at3 {α : Type} (x y z u : α) : atI [x, y, z, u] 3 = some u := by
  unfold atI
  rw [show ixN [x, y, z, u].length 3 = some 3 from rfl]
  rfl
theorem wd_turn {pk : Fn} (K : PickOk pk) {bg : D} (hb : Bag bg) (s1 : Slot) (w : Int × Int) (hw : Win w) (acc : List (Int × Int)) (ha : acc.length < 10000) (a5 : Slot) :
    ∃ bg' v b5, Bag bg' ∧ Win v ∧ exs 1000 (wdB pk) [.mt false bg, s1, .mt true (.lst (acc.map wD)), .dat (.int w.1), .dat (.int w.2), a5] = .ok .nx [.mt false bg', s1, .mt true (.lst ((acc ++ [v]).map wD)), .dat (.int w.1), .dat (.int w.2), b5] := by
  obtain ⟨d, bg1, hb1, hd, c⟩ := pck K hb [.int 0, .int 0, .int 0, .int 0, .int 1, .int 2, .int 3] (by simp) (by simp)
  obtain ⟨x, y⟩ := w
  obtain ⟨h1, h2, h3, h4⟩ := hw
  simp only at h1 h2 h3 h4
  have la : acc.length < LIM := by unfold LIM; omega
  have t1 : ex 1000 (.set 5 (.mk dLst (.cons (.mk dTup (.cons (.var 3) (.cons (.var 4) .nil))) (.cons (.mk dTup (.cons (.var 3) (.cons (.prim (pBin .Sub) (.cons (.con (.int 99)) (.cons (.var 4) .nil))) .nil))) (.cons (.mk dTup (.cons (.prim (pBin .Sub) (.cons (.con (.int 99)) (.cons (.var 4) .nil))) (.cons (.con (.int 99)) .nil))) (.cons (.mk dTup (.cons (.con (.int 100)) (.cons (.var 4) .nil))) .nil)))))) [.mt false bg, s1, .mt true (.lst (acc.map wD)), .dat (.int x), .dat (.int y), a5] = .ok .nx [.mt false bg, s1, .mt true (.lst (acc.map wD)), .dat (.int x), .dat (.int y), .mt true (.lst [wD (x, y), wD (x, 99 - y), wD (99 - y, 99), wD (100, y)])] := by
    simp [dTup, dLst, show 2 ≤ LIM by decide, show 4 ≤ LIM by decide, store, wD]
  have key : ∀ v : Int × Int, atI [wD (x, y), wD (x, 99 - y), wD (99 - y, 99), wD (100, y)] (match d with | .int i => i | _ => 0) = some (wD v) → (∃ i, d = .int i) → exs 1000 (wdB pk) [.mt false bg, s1, .mt true (.lst (acc.map wD)), .dat (.int x), .dat (.int y), a5] = .ok .nx [.mt false bg1, s1, .mt true (.lst ((acc ++ [v]).map wD)), .dat (.int x), .dat (.int y), .mt true (.lst [wD (x, y), wD (x, 99 - y), wD (99 - y, 99), wD (100, y)])] := fun v hv ⟨i, hi⟩ => by
    subst hi
    simp only at hv
    unfold wdB
    rw [exs_nx t1]
    have ix : orP pIx pDIx [.lst [wD (x, y), wD (x, 99 - y), wD (99 - y, 99), wD (100, y)], .int i] = some (.dat (wD v)) := by
      rw [ix_lst, hv]; rfl
    simp [c, dLst, show 7 ≤ LIM by decide, isL, res, ix, mApp, la]
  simp only [List.mem_cons, List.not_mem_nil, or_false] at hd
  rcases hd with rfl | rfl | rfl | rfl | rfl | rfl | rfl
  · exact ⟨bg1, (x, y), _, hb1, ⟨h1, h2, h3, h4⟩, key _ (at0 _ _) ⟨_, rfl⟩⟩
  · exact ⟨bg1, (x, y), _, hb1, ⟨h1, h2, h3, h4⟩, key _ (at0 _ _) ⟨_, rfl⟩⟩
  · exact ⟨bg1, (x, y), _, hb1, ⟨h1, h2, h3, h4⟩, key _ (at0 _ _) ⟨_, rfl⟩⟩
  · exact ⟨bg1, (x, y), _, hb1, ⟨h1, h2, h3, h4⟩, key _ (at0 _ _) ⟨_, rfl⟩⟩
  · exact ⟨bg1, (x, 99 - y), _, hb1, ⟨h1, h2, by simp; omega, by simp; omega⟩, key _ (at1 _ _ _) ⟨_, rfl⟩⟩
  · exact ⟨bg1, (99 - y, 99), _, hb1, ⟨by simp; omega, by simp; omega, by simp, by simp⟩, key _ (at2 _ _ _ _) ⟨_, rfl⟩⟩
  · exact ⟨bg1, (100, y), _, hb1, ⟨by simp, by simp, h3, h4⟩, key _ (at3 _ _ _ _) ⟨_, rfl⟩⟩
theorem wd_loop {pk : Fn} (K : PickOk pk) (s1 : Slot) : ∀ (ws acc : List (Int × Int)) (bg : D) (a3 a4 a5 : Slot), Bag bg → (∀ w ∈ ws, Win w) → (∀ w ∈ acc, Win w) → acc.length + ws.length < 10000 → ∃ (bg' : D) (us : List (Int × Int)) (b3 b4 b5 : Slot), Bag bg' ∧ (∀ w ∈ us, Win w) ∧ us.length = acc.length + ws.length ∧
    forLoop (exs 1000 (wdB pk)) (.cons (.nm 3) (.cons (.nm 4) .nil)) (ws.map wD) [.mt false bg, s1, .mt true (.lst (acc.map wD)), a3, a4, a5] = .ok .nx [.mt false bg', s1, .mt true (.lst (us.map wD)), b3, b4, b5]
  | [], acc, bg, a3, a4, a5, hb, _, hc, _ => ⟨bg, acc, a3, a4, a5, hb, hc, by simp, by simp [forLoop]⟩
  | w :: ws, acc, bg, a3, a4, a5, hb, hw, hc, hl => by
    simp only [List.length_cons] at hl
    obtain ⟨bg1, v, c5, hb1, hv, e1⟩ := wd_turn K hb s1 w (hw w List.mem_cons_self) acc (by omega) a5
    obtain ⟨bg2, us, b3, b4, b5, hb2, hu, ul, e⟩ := wd_loop K s1 ws (acc ++ [v]) bg1 (.dat (.int w.1)) (.dat (.int w.2)) c5 hb1 (fun x hx => hw x (List.mem_cons_of_mem _ hx)) (fun x hx => by
      rcases List.mem_append.mp hx with h | h
      · exact hc x h
      · rw [List.mem_singleton.mp h]; exact hv) (by simp; omega)
    refine ⟨bg2, us, b3, b4, b5, hb2, hu, by rw [ul]; simp; omega, ?_⟩
    rw [List.map_cons, forLoop, show bnd (.cons (.nm 3) (.cons (.nm 4) .nil)) (wD w) [.mt false bg, s1, .mt true (.lst (acc.map wD)), a3, a4, a5] = some [.mt false bg, s1, .mt true (.lst (acc.map wD)), .dat (.int w.1), .dat (.int w.2), a5] from by simp [bnd, wD]]
    simp only [e1, bind_ok]
    exact e
def WideOk (f : Fn) : Prop := f.io = [true, false] ∧ ∀ bg ws es, Bag bg → Mod ws es → ∃ us bg', Bag bg' ∧ Mod us es ∧ f.F [bg, modD ws es] = .ok (.dat (modD us es)) [bg']
theorem wide_ok {g : Fs} (K : PickOk g.f__law_pick) : WideOk (step g).f__law_wide := by
  refine ⟨rfl, fun bg ws es hb M => ?_⟩
  obtain ⟨bg1, us, b3, b4, b5, hb1, hu, ul, e⟩ := wd_loop K (.dat (modD ws es)) ws [] bg .no .no .no hb M.win nofun (by have := M.few; simp; omega)
  simp only [List.length_nil, Nat.zero_add] at ul
  refine ⟨us, bg1, hb1, ⟨hu, by rw [ul]; exact M.few, by rw [ul]; exact M.edg⟩, ?_⟩
  have s1 : ex 1000 (.set 2 (.mk dLst .nil)) [.mt false bg, .dat (modD ws es), .no, .no, .no, .no] = .ok .nx [.mt false bg, .dat (modD ws es), .mt true (.lst []), .no, .no, .no] := by simp [dLst, store]
  have s2 := forS (n := 1000) (g := gSeq) (as := .cons (.prim (orP pIx pDIx) (.cons (.var 1) (.cons (.con (.int 0)) .nil))) .nil) (tg := .cons (.nm 3) (.cons (.nm 4) .nil)) (b := wdB g.f__law_pick) (ls := [.dat (.tup (ws.map wD))]) (ds := [.tup (ws.map wD)]) (xs := ws.map wD) (Γ := [.mt false bg, .dat (modD ws es), .mt true (.lst []), .no, .no, .no]) (by simp [modD]) rfl rfl rfl e
  have s3 : ex 1000 (.ret (.mk dTup (.cons (.prim pTup (.cons (.var 2) .nil)) (.cons (.prim (orP pIx pDIx) (.cons (.var 1) (.cons (.con (.int 1)) .nil))) .nil)))) [.mt false bg1, .dat (modD ws es), .mt true (.lst (us.map wD)), b3, b4, b5] = .ok (.rt (.dat (modD us es))) [.mt false bg1, .dat (modD ws es), .mt true (.lst (us.map wD)), b3, b4, b5] := by
    simp [res, pTup, dTup, show 2 ≤ LIM by decide, modD]
  have h1 : exs 1000 (tm_f__law_wide g) [.mt false bg, .dat (modD ws es), .no, .no, .no, .no] = .ok (.rt (.dat (modD us es))) [.mt false bg1, .dat (modD ws es), .mt true (.lst (us.map wD)), b3, b4, b5] := (exs_nx s1).trans ((exs_nx s2).trans (exs_rt s3))
  exact (r_f__law_wide g _).trans (runF_rt h1 rfl rfl)
end Lw

end
-- PW
section
/-! PW: the evaluator walked by what is asked of its end (frames instead of lambdas, so that simp does not go into what comes later). -/
namespace MP
open PySem L2
def wp {α : Type} (r : Rs α) (Q : α → List Slot → Prop) : Prop := match r with
  | .ok a Γ => Q a Γ
  | _ => False
theorem wp_def {α : Type} {r : Rs α} {Q : α → List Slot → Prop} : wp r Q ↔ ∃ a Γ, r = .ok a Γ ∧ Q a Γ := by
  cases r with
  | ok a Γ => exact ⟨fun h => ⟨a, Γ, rfl, h⟩, fun ⟨_, _, e, h⟩ => by cases e; exact h⟩
  | exn x Γ => exact ⟨fun h => absurd h id, fun ⟨_, _, e, _⟩ => by cases e⟩
  | stuck => exact ⟨fun h => absurd h id, fun ⟨_, _, e, _⟩ => by cases e⟩
theorem wp_mono {α : Type} {r : Rs α} {Q R : α → List Slot → Prop} (h : wp r Q) (k : ∀ a Γ, Q a Γ → R a Γ) : wp r R := by
  cases r <;> simp_all [wp]
theorem wp_bind {α β : Type} (r : Rs α) (f : α → List Slot → Rs β) (Q : β → List Slot → Prop) : wp (r.bind f) Q = wp r (fun a Γ => wp (f a Γ) Q) := by
  cases r <;> rfl
section
variable {Γ : List Slot} {n : Nat} {Q : Vl → List Slot → Prop} {A : List Vl → List Slot → Prop} {R : Fl → List Slot → Prop} {DQ : List D → List Slot → Prop} {OQ : D → List Slot → Prop}
@[simp ↓] theorem wp_ok {α : Type} {a : α} {Q : α → List Slot → Prop} : wp (.ok a Γ) Q = Q a Γ := rfl
def kOut (Q : Vl → List Slot → Prop) (Γ : List Slot) (o : Option Ou) : Prop := match o with
  | some o => Q o.vl Γ
  | none => False
@[simp ↓] theorem kOut_d {d : D} : kOut Q Γ (some (.dat d)) = Q (.dat d) Γ := rfl
@[simp ↓] theorem kOut_n {d : D} : kOut Q Γ (some (.new d)) = Q (.new d) Γ := rfl
def kVar (i : Nat) (Γ : List Slot) (Q : Vl → List Slot → Prop) (s : Option Slot) : Prop := wp (match s with
    | some (.dat d) => .ok (.dat d) Γ
    | some (.mt _ _) => .ok (.ref i) Γ
    | some (.lck _ _) => .ok (.ref i) Γ
    | _ => .stuck) Q
@[simp ↓] theorem kVar_d {i : Nat} {d : D} : kVar i Γ Q (some (.dat d)) = Q (.dat d) Γ := rfl
@[simp ↓] theorem kVar_m {i : Nat} {b : Bool} {d : D} : kVar i Γ Q (some (.mt b d)) = Q (.ref i) Γ := rfl
@[simp ↓] theorem kVar_l {i : Nat} {b : Bool} {d : D} : kVar i Γ Q (some (.lck b d)) = Q (.ref i) Γ := rfl
@[simp ↓] theorem w_var {i : Nat} : wp (ev (.var i) Γ) Q = kVar i Γ Q Γ[i]? := by rw [ev_var]; rfl
@[simp ↓] theorem w_con {d : D} : wp (ev (.con d) Γ) Q = Q (.dat d) Γ := by rw [ev_con]; rfl
/-- arguments -/
def kArg2 (l : Vl) (A : List Vl → List Slot → Prop) (ls : List Vl) (Γ : List Slot) : Prop := A (l :: ls) Γ
@[simp ↓] theorem kArg2_e {l : Vl} {ls : List Vl} : kArg2 l A ls Γ = A (l :: ls) Γ := rfl
def kArg (r : Ta) (A : List Vl → List Slot → Prop) (l : Vl) (Γ : List Slot) : Prop := wp (evA r Γ) (kArg2 l A)
@[simp ↓] theorem kArg_e {r : Ta} {l : Vl} : kArg r A l Γ = wp (evA r Γ) (kArg2 l A) := rfl
@[simp ↓] theorem w_nil : wp (evA .nil Γ) A = A [] Γ := by rw [evA_nil]; rfl
@[simp ↓] theorem w_cons {t : Tm} {r : Ta} : wp (evA (.cons t r) Γ) A = wp (ev t Γ) (kArg r A) := by
  rw [evA_cons, wp_bind]
  congr
  funext l Γ1
  rw [wp_bind]
  rfl
/-- primitives -/
def kApp (f : List D → Option Ou) (Q : Vl → List Slot → Prop) (Γ : List Slot) (ds : Option (List D)) : Prop := match ds with
  | some ds => kOut Q Γ (f ds)
  | none => False
@[simp ↓] theorem kApp_e {f : List D → Option Ou} {ds : List D} : kApp f Q Γ (some ds) = kOut Q Γ (f ds) := rfl
def kPrim (f : List D → Option Ou) (Q : Vl → List Slot → Prop) (ls : List Vl) (Γ : List Slot) : Prop := kApp f Q Γ (resA Γ ls)
@[simp ↓] theorem kPrim_e {f : List D → Option Ou} {ls : List Vl} : kPrim f Q ls Γ = kApp f Q Γ (resA Γ ls) := rfl
@[simp ↓] theorem w_prim {f : List D → Option Ou} {as : Ta} : wp (ev (.prim f as) Γ) Q = wp (evA as Γ) (kPrim f Q) := by
  rw [ev_prim, wp_bind]
  congr
  funext ls Γ1
  unfold kPrim kApp
  cases resA Γ1 ls with
  | none => rfl
  | some ds => dsimp only; unfold kOut; cases f ds <;> rfl
/-- displays -/
def kMk2 (f : List D → Option Ou) (Q : Vl → List Slot → Prop) (ds : List D) (Γ : List Slot) : Prop := kOut Q Γ (f ds)
@[simp ↓] theorem kMk2_e {f : List D → Option Ou} {ds : List D} : kMk2 f Q ds Γ = kOut Q Γ (f ds) := rfl
def kMk (f : List D → Option Ou) (Q : Vl → List Slot → Prop) (ls : List Vl) (Γ : List Slot) : Prop := wp (escA ls Γ) (kMk2 f Q)
@[simp ↓] theorem kMk_e {f : List D → Option Ou} {ls : List Vl} : kMk f Q ls Γ = wp (escA ls Γ) (kMk2 f Q) := rfl
@[simp ↓] theorem w_mk {f : List D → Option Ou} {as : Ta} : wp (ev (.mk f as) Γ) Q = wp (evA as Γ) (kMk f Q) := by
  rw [ev_mk, wp_bind]
  congr
  funext ls Γ1
  rw [wp_bind]
  unfold kMk
  congr
  funext ds Γ2
  unfold kMk2 kOut
  cases f ds <;> rfl
/-- what is kept -/
def kEsc (i : Nat) (Γ : List Slot) (OQ : D → List Slot → Prop) (s : Option Slot) : Prop := wp (match s with
    | some (.dat d) => .ok d Γ
    | some (.mt _ d) => .ok d (Γ.set i (.dat d))
    | _ => .stuck) OQ
@[simp ↓] theorem kEsc_d {i : Nat} {d : D} : kEsc i Γ OQ (some (.dat d)) = OQ d Γ := rfl
@[simp ↓] theorem kEsc_m {i : Nat} {b : Bool} {d : D} : kEsc i Γ OQ (some (.mt b d)) = OQ d (Γ.set i (.dat d)) := rfl
@[simp ↓] theorem w_esc_d {d : D} : wp (esc (.dat d) Γ) OQ = OQ d Γ := rfl
@[simp ↓] theorem w_esc_n {d : D} : wp (esc (.new d) Γ) OQ = OQ d Γ := rfl
@[simp ↓] theorem w_esc_r {i : Nat} : wp (esc (.ref i) Γ) OQ = kEsc i Γ OQ Γ[i]? := rfl
def kEA2 (d : D) (DQ : List D → List Slot → Prop) (ds : List D) (Γ : List Slot) : Prop := DQ (d :: ds) Γ
@[simp ↓] theorem kEA2_e {d : D} {ds : List D} : kEA2 d DQ ds Γ = DQ (d :: ds) Γ := rfl
def kEA (ls : List Vl) (DQ : List D → List Slot → Prop) (d : D) (Γ : List Slot) : Prop := wp (escA ls Γ) (kEA2 d DQ)
@[simp ↓] theorem kEA_e {ls : List Vl} {d : D} : kEA ls DQ d Γ = wp (escA ls Γ) (kEA2 d DQ) := rfl
@[simp ↓] theorem w_ea_nil : wp (escA [] Γ) DQ = DQ [] Γ := rfl
@[simp ↓] theorem w_ea_cons {l : Vl} {ls : List Vl} : wp (escA (l :: ls) Γ) DQ = wp (esc l Γ) (kEA ls DQ) := by
  rw [escA_cons, wp_bind]
  congr
  funext d Γ1
  rw [wp_bind]
  rfl
/-- calls -/
def kCall (f : Fn) (Q : Vl → List Slot → Prop) (ls : List Vl) (Γ : List Slot) : Prop := wp (evCall f ls Γ) Q
@[simp ↓] theorem kCall_e {f : Fn} {ls : List Vl} : kCall f Q ls Γ = wp (evCall f ls Γ) Q := rfl
@[simp ↓] theorem w_call {f : Fn} {as : Ta} : wp (ev (.call f as) Γ) Q = wp (evA as Γ) (kCall f Q) := by
  rw [ev_call, wp_bind]; rfl
def kMeth2 (f : Fn) (l : Vl) (Q : Vl → List Slot → Prop) (ls : List Vl) (Γ : List Slot) : Prop := wp (evCall f (l :: ls) Γ) Q
@[simp ↓] theorem kMeth2_e {f : Fn} {l : Vl} {ls : List Vl} : kMeth2 f l Q ls Γ = wp (evCall f (l :: ls) Γ) Q := rfl
def kMeth1 (l : Vl) (as : Ta) (Q : Vl → List Slot → Prop) (Γ : List Slot) (f : Option Fn) : Prop := match f with
  | some f => wp (evA as Γ) (kMeth2 f l Q)
  | none => False
@[simp ↓] theorem kMeth1_e {l : Vl} {as : Ta} {f : Fn} : kMeth1 l as Q Γ (some f) = wp (evA as Γ) (kMeth2 f l Q) := rfl
def kMeth0 (sel : D → Option Fn) (l : Vl) (as : Ta) (Q : Vl → List Slot → Prop) (Γ : List Slot) (d : Option D) : Prop := kMeth1 l as Q Γ (d.bind sel)
@[simp ↓] theorem kMeth0_e {sel : D → Option Fn} {l : Vl} {as : Ta} {d : D} : kMeth0 sel l as Q Γ (some d) = kMeth1 l as Q Γ (sel d) := rfl
def kMeth (sel : D → Option Fn) (as : Ta) (Q : Vl → List Slot → Prop) (l : Vl) (Γ : List Slot) : Prop := kMeth0 sel l as Q Γ (res Γ l)
@[simp ↓] theorem kMeth_e {sel : D → Option Fn} {as : Ta} {l : Vl} : kMeth sel as Q l Γ = kMeth0 sel l as Q Γ (res Γ l) := rfl
@[simp ↓] theorem w_meth {sel : D → Option Fn} {o : Tm} {as : Ta} : wp (ev (.meth sel o as) Γ) Q = wp (ev o Γ) (kMeth sel as Q) := by
  rw [ev_meth, wp_bind]
  congr
  funext l Γ1
  unfold kMeth kMeth0 kMeth1
  cases (res Γ1 l).bind sel with
  | none => rfl
  | some f => dsimp only; rw [wp_bind]; rfl
def kRcv2 (f : List D → Option Ou) (l : Vl) (Q : Vl → List Slot → Prop) (ls : List Vl) (Γ : List Slot) : Prop := kApp f Q Γ (resA Γ (l :: ls))
@[simp ↓] theorem kRcv2_e {f : List D → Option Ou} {l : Vl} {ls : List Vl} : kRcv2 f l Q ls Γ = kApp f Q Γ (resA Γ (l :: ls)) := rfl
def kRcv1 (k : D → Bool) (f : List D → Option Ou) (l : Vl) (as : Ta) (Q : Vl → List Slot → Prop) (Γ : List Slot) (d : Option D) : Prop := match d with
  | some d => k d = true ∧ wp (evA as Γ) (kRcv2 f l Q)
  | none => False
@[simp ↓] theorem kRcv1_e {k : D → Bool} {f : List D → Option Ou} {l : Vl} {as : Ta} {d : D} : kRcv1 k f l as Q Γ (some d) = (k d = true ∧ wp (evA as Γ) (kRcv2 f l Q)) := rfl
def kRcv (k : D → Bool) (f : List D → Option Ou) (as : Ta) (Q : Vl → List Slot → Prop) (l : Vl) (Γ : List Slot) : Prop := kRcv1 k f l as Q Γ (res Γ l)
@[simp ↓] theorem kRcv_e {k : D → Bool} {f : List D → Option Ou} {as : Ta} {l : Vl} : kRcv k f as Q l Γ = kRcv1 k f l as Q Γ (res Γ l) := rfl
@[simp ↓] theorem w_rcv {k : D → Bool} {f : List D → Option Ou} {o : Tm} {as : Ta} : wp (ev (.rcv k f o as) Γ) Q = wp (ev o Γ) (kRcv k f as Q) := by
  rw [ev_rcv, wp_bind]
  congr
  funext l Γ1
  unfold kRcv kRcv1
  cases res Γ1 l with
  | none => rfl
  | some d =>
    dsimp only
    cases hk : k d with
    | false => simp [wp]
    | true =>
      rw [if_pos rfl, wp_bind]
      simp only [true_and]
      congr
      funext ls Γ2
      unfold kRcv2 kApp
      cases resA Γ2 (l :: ls) with
      | none => rfl
      | some ds => dsimp only; unfold kOut; cases f ds <;> rfl
/-- truth -/
def kAnd (b : Tm) (Q : Vl → List Slot → Prop) (l : Vl) (Γ : List Slot) : Prop := wp (match l with
    | .dat (.bl true) => ev b Γ
    | .dat (.bl false) => .ok l Γ
    | _ => .stuck) Q
@[simp ↓] theorem kAnd_t {b : Tm} : kAnd b Q (.dat (.bl true)) Γ = wp (ev b Γ) Q := rfl
@[simp ↓] theorem kAnd_f {b : Tm} : kAnd b Q (.dat (.bl false)) Γ = Q (.dat (.bl false)) Γ := rfl
@[simp ↓] theorem w_and {a b : Tm} : wp (ev (.and a b) Γ) Q = wp (ev a Γ) (kAnd b Q) := by
  rw [ev_and, wp_bind]; rfl
def kOr (b : Tm) (Q : Vl → List Slot → Prop) (l : Vl) (Γ : List Slot) : Prop := wp (match l with
    | .dat (.bl true) => .ok l Γ
    | .dat (.bl false) => ev b Γ
    | _ => .stuck) Q
@[simp ↓] theorem kOr_t {b : Tm} : kOr b Q (.dat (.bl true)) Γ = Q (.dat (.bl true)) Γ := rfl
@[simp ↓] theorem kOr_f {b : Tm} : kOr b Q (.dat (.bl false)) Γ = wp (ev b Γ) Q := rfl
@[simp ↓] theorem w_or {a b : Tm} : wp (ev (.or a b) Γ) Q = wp (ev a Γ) (kOr b Q) := by
  rw [ev_or, wp_bind]; rfl
def kNot (Q : Vl → List Slot → Prop) (l : Vl) (Γ : List Slot) : Prop := wp (match l with
    | .dat (.bl b) => .ok (.dat (.bl (!b))) Γ
    | _ => .stuck) Q
@[simp ↓] theorem kNot_e {b : Bool} : kNot Q (.dat (.bl b)) Γ = Q (.dat (.bl (!b))) Γ := rfl
@[simp ↓] theorem w_not {a : Tm} : wp (ev (.not a) Γ) Q = wp (ev a Γ) (kNot Q) := by
  rw [ev_not, wp_bind]; rfl
def kIf (a b : Tm) (Q : Vl → List Slot → Prop) (l : Vl) (Γ : List Slot) : Prop := wp (match l with
    | .dat (.bl true) => ev a Γ
    | .dat (.bl false) => ev b Γ
    | _ => .stuck) Q
@[simp ↓] theorem kIf_t {a b : Tm} : kIf a b Q (.dat (.bl true)) Γ = wp (ev a Γ) Q := rfl
@[simp ↓] theorem kIf_f {a b : Tm} : kIf a b Q (.dat (.bl false)) Γ = wp (ev b Γ) Q := rfl
@[simp ↓] theorem w_ifx {c a b : Tm} : wp (ev (.ifx c a b) Γ) Q = wp (ev c Γ) (kIf a b Q) := by
  rw [ev_ifx, wp_bind]; rfl
def kChn4 (g : List D → Option Ou) (lb : Vl) (Q : Vl → List Slot → Prop) (lc : Vl) (Γ : List Slot) : Prop := kApp g Q Γ (resA Γ [lb, lc])
@[simp ↓] theorem kChn4_e {g : List D → Option Ou} {lb lc : Vl} : kChn4 g lb Q lc Γ = kApp g Q Γ (resA Γ [lb, lc]) := rfl
def kChn3 (g : List D → Option Ou) (lb : Vl) (c : Tm) (Q : Vl → List Slot → Prop) (l : Vl) (Γ : List Slot) : Prop := match l with
  | .dat (.bl false) => Q (.dat (.bl false)) Γ
  | .dat (.bl true) => wp (ev c Γ) (kChn4 g lb Q)
  | _ => False
@[simp ↓] theorem kChn3_t {g : List D → Option Ou} {lb : Vl} {c : Tm} : kChn3 g lb c Q (.dat (.bl true)) Γ = wp (ev c Γ) (kChn4 g lb Q) := rfl
@[simp ↓] theorem kChn3_f {g : List D → Option Ou} {lb : Vl} {c : Tm} : kChn3 g lb c Q (.dat (.bl false)) Γ = Q (.dat (.bl false)) Γ := rfl
def kChn2 (f g : List D → Option Ou) (la : Vl) (c : Tm) (Q : Vl → List Slot → Prop) (lb : Vl) (Γ : List Slot) : Prop := kApp f (kChn3 g lb c Q) Γ (resA Γ [la, lb])
@[simp ↓] theorem kChn2_e {f g : List D → Option Ou} {la lb : Vl} {c : Tm} : kChn2 f g la c Q lb Γ = kApp f (kChn3 g lb c Q) Γ (resA Γ [la, lb]) := rfl
def kChn1 (f g : List D → Option Ou) (b c : Tm) (Q : Vl → List Slot → Prop) (la : Vl) (Γ : List Slot) : Prop := wp (ev b Γ) (kChn2 f g la c Q)
@[simp ↓] theorem kChn1_e {f g : List D → Option Ou} {b c : Tm} {la : Vl} : kChn1 f g b c Q la Γ = wp (ev b Γ) (kChn2 f g la c Q) := rfl
@[simp ↓] theorem w_chn {f g : List D → Option Ou} {a b c : Tm} : wp (ev (.chn f g a b c) Γ) Q = wp (ev a Γ) (kChn1 f g b c Q) := by
  rw [ev_chn, wp_bind]
  congr
  funext la Γ1
  unfold kChn1
  rw [wp_bind]
  congr
  funext lb Γ2
  unfold kChn2 kApp
  cases resA Γ2 [la, lb] with
  | none => rfl
  | some ds =>
    dsimp only
    unfold kOut
    cases f ds with
    | none => rfl
    | some o =>
      cases o with
      | new d => rfl
      | dat d =>
        cases d with
        | bl b =>
          cases b with
          | false => rfl
          | true =>
            dsimp only
            rw [wp_bind]
            show _ = wp (ev c Γ2) (kChn4 g lb Q)
            congr
            funext lc Γ3
            unfold kChn4 kApp
            cases resA Γ3 [lb, lc] with
            | none => rfl
            | some es => dsimp only; unfold kOut; cases g es <;> rfl
        | _ => rfl
/-- comprehensions -/
def kLc3 (own : List Nat) (Γ1 : List Slot) (lk : List Nat) (Q : Vl → List Slot → Prop) (acc : List D) (Γ2 : List Slot) : Prop := Q (.new (.lst acc)) (keepG own Γ1 (unlockA lk Γ2))
@[simp ↓] theorem kLc3_e {own : List Nat} {Γ1 : List Slot} {lk : List Nat} {acc : List D} : kLc3 own Γ1 lk Q acc Γ = Q (.new (.lst acc)) (keepG own Γ1 (unlockA lk Γ)) := rfl
def kGen (g : List D → Option (List D)) (P : List D → Prop) (ds : Option (List D)) : Prop := match ds.bind g with
  | some xs => P xs
  | none => False
def kXs (P : List D → Prop) (xs : Option (List D)) : Prop := match xs with
  | some xs => P xs
  | none => False
@[simp ↓] theorem kXs_e {P : List D → Prop} {xs : List D} : kXs P (some xs) = P xs := rfl
@[simp ↓] theorem kGen_e {g : List D → Option (List D)} {P : List D → Prop} {ds : List D} : kGen g P (some ds) = kXs P (g ds) := rfl
def kLc2 (tg : Tg) (own : List Nat) (c e : Tm) (Q : Vl → List Slot → Prop) (ls : List Vl) (Γ : List Slot) (xs : List D) : Prop := xs.length ≤ LIM ∧ noMut own Γ = true ∧ wp (lcLoop (ev c) (ev e) tg own xs [] (wipeG own (lockA (locks Γ ls) Γ))) (kLc3 own Γ (locks Γ ls) Q)
@[simp ↓] theorem kLc2_e {tg : Tg} {own : List Nat} {c e : Tm} {ls : List Vl} {xs : List D} : kLc2 tg own c e Q ls Γ xs = (xs.length ≤ LIM ∧ noMut own Γ = true ∧ wp (lcLoop (ev c) (ev e) tg own xs [] (wipeG own (lockA (locks Γ ls) Γ))) (kLc3 own Γ (locks Γ ls) Q)) := rfl
def kLc (g : List D → Option (List D)) (tg : Tg) (own : List Nat) (c e : Tm) (Q : Vl → List Slot → Prop) (ls : List Vl) (Γ : List Slot) : Prop := kGen g (kLc2 tg own c e Q ls Γ) (resA Γ ls)
@[simp ↓] theorem kLc_e {g : List D → Option (List D)} {tg : Tg} {own : List Nat} {c e : Tm} {ls : List Vl} : kLc g tg own c e Q ls Γ = kGen g (kLc2 tg own c e Q ls Γ) (resA Γ ls) := rfl
theorem ev_lcE {g : List D → Option (List D)} {as : Ta} {tg : Tg} {own : List Nat} {c e : Tm} : ev (.lc g as tg own c e) Γ = (evA as Γ).bind fun ls Γ1 => match resA Γ1 ls with
    | some ds => (match g ds with
      | some xs => if xs.length ≤ LIM ∧ noMut own Γ1 = true then
          (lcLoop (ev c) (ev e) tg own xs [] (wipeG own (lockA (locks Γ1 ls) Γ1))).bind fun acc Γ2 => .ok (.new (.lst acc)) (keepG own Γ1 (unlockA (locks Γ1 ls) Γ2))
        else .stuck
      | none => .stuck)
    | none => .stuck := by first | (rw [ev]; done) | (rw [ev]; rfl)
@[simp ↓] theorem w_lc {g : List D → Option (List D)} {as : Ta} {tg : Tg} {own : List Nat} {c e : Tm} : wp (ev (.lc g as tg own c e) Γ) Q = wp (evA as Γ) (kLc g tg own c e Q) := by
  rw [ev_lcE, wp_bind]
  congr
  funext ls Γ1
  unfold kLc kGen
  cases resA Γ1 ls with
  | none => rfl
  | some ds =>
    show wp (match g ds with | some xs => _ | none => _) Q = (match g ds with | some xs => _ | none => _)
    cases g ds with
    | none => rfl
    | some xs =>
      dsimp only
      unfold kLc2
      by_cases h : xs.length ≤ LIM ∧ noMut own Γ1 = true
      · rw [if_pos h, wp_bind]
        apply propext
        exact ⟨fun z => ⟨h.1, h.2, z⟩, fun z => z.2.2⟩
      · rw [if_neg h]
        apply propext
        exact ⟨fun z => absurd z id, fun z => absurd ⟨z.1, z.2.1⟩ h⟩
def kDc3 (own : List Nat) (Γ1 : List Slot) (lk : List Nat) (Q : Vl → List Slot → Prop) (acc : List D × List D) (Γ2 : List Slot) : Prop := Q (.new (.dct acc.1 acc.2)) (keepG own Γ1 (unlockA lk Γ2))
@[simp ↓] theorem kDc3_e {own : List Nat} {Γ1 : List Slot} {lk : List Nat} {acc : List D × List D} : kDc3 own Γ1 lk Q acc Γ = Q (.new (.dct acc.1 acc.2)) (keepG own Γ1 (unlockA lk Γ)) := rfl
def kDc2 (tg : Tg) (own : List Nat) (c k e : Tm) (Q : Vl → List Slot → Prop) (ls : List Vl) (Γ : List Slot) (xs : List D) : Prop := xs.length ≤ LIM ∧ noMut own Γ = true ∧ wp (dcLoop (ev c) (ev k) (ev e) tg own xs ([], []) (wipeG own (lockA (locks Γ ls) Γ))) (kDc3 own Γ (locks Γ ls) Q)
@[simp ↓] theorem kDc2_e {tg : Tg} {own : List Nat} {c k e : Tm} {ls : List Vl} {xs : List D} : kDc2 tg own c k e Q ls Γ xs = (xs.length ≤ LIM ∧ noMut own Γ = true ∧ wp (dcLoop (ev c) (ev k) (ev e) tg own xs ([], []) (wipeG own (lockA (locks Γ ls) Γ))) (kDc3 own Γ (locks Γ ls) Q)) := rfl
def kDc (g : List D → Option (List D)) (tg : Tg) (own : List Nat) (c k e : Tm) (Q : Vl → List Slot → Prop) (ls : List Vl) (Γ : List Slot) : Prop := kGen g (kDc2 tg own c k e Q ls Γ) (resA Γ ls)
@[simp ↓] theorem kDc_e {g : List D → Option (List D)} {tg : Tg} {own : List Nat} {c k e : Tm} {ls : List Vl} : kDc g tg own c k e Q ls Γ = kGen g (kDc2 tg own c k e Q ls Γ) (resA Γ ls) := rfl
theorem ev_dcE {g : List D → Option (List D)} {as : Ta} {tg : Tg} {own : List Nat} {c k e : Tm} : ev (.dc g as tg own c k e) Γ = (evA as Γ).bind fun ls Γ1 => match resA Γ1 ls with
    | some ds => (match g ds with
      | some xs => if xs.length ≤ LIM ∧ noMut own Γ1 = true then
          (dcLoop (ev c) (ev k) (ev e) tg own xs ([], []) (wipeG own (lockA (locks Γ1 ls) Γ1))).bind fun acc Γ2 => .ok (.new (.dct acc.1 acc.2)) (keepG own Γ1 (unlockA (locks Γ1 ls) Γ2))
        else .stuck
      | none => .stuck)
    | none => .stuck := by first | (rw [ev]; done) | (rw [ev]; rfl)
@[simp ↓] theorem w_dc {g : List D → Option (List D)} {as : Ta} {tg : Tg} {own : List Nat} {c k e : Tm} : wp (ev (.dc g as tg own c k e) Γ) Q = wp (evA as Γ) (kDc g tg own c k e Q) := by
  rw [ev_dcE, wp_bind]
  congr
  funext ls Γ1
  unfold kDc kGen
  cases resA Γ1 ls with
  | none => rfl
  | some ds =>
    show wp (match g ds with | some xs => _ | none => _) Q = (match g ds with | some xs => _ | none => _)
    cases g ds with
    | none => rfl
    | some xs =>
      dsimp only
      unfold kDc2
      by_cases h : xs.length ≤ LIM ∧ noMut own Γ1 = true
      · rw [if_pos h, wp_bind]
        apply propext
        exact ⟨fun z => ⟨h.1, h.2, z⟩, fun z => z.2.2⟩
      · rw [if_neg h]
        apply propext
        exact ⟨fun z => absurd z id, fun z => absurd ⟨z.1, z.2.1⟩ h⟩
/-- methods of changeable things -/
def kM5 (i : Nat) (b : Bool) (Q : Vl → List Slot → Prop) (Γ : List Slot) (r : Option (D × Ou)) : Prop := match r with
  | some (d', o) => Q o.vl (Γ.set i (.mt b d'))
  | none => False
@[simp ↓] theorem kM5_e {i : Nat} {b : Bool} {d : D} {o : Ou} : kM5 i b Q Γ (some (d, o)) = Q o.vl (Γ.set i (.mt b d)) := rfl
def kM4 (f : D → List D → Option (D × Ou)) (i : Nat) (Q : Vl → List Slot → Prop) (ds : List D) (Γ : List Slot) (s : Option Slot) : Prop := match s with
  | some (.mt b d) => kM5 i b Q Γ (f d ds)
  | _ => False
@[simp ↓] theorem kM4_e {f : D → List D → Option (D × Ou)} {i : Nat} {ds : List D} {b : Bool} {d : D} : kM4 f i Q ds Γ (some (.mt b d)) = kM5 i b Q Γ (f d ds) := rfl
def kM3 (f : D → List D → Option (D × Ou)) (i : Nat) (Q : Vl → List Slot → Prop) (ds : List D) (Γ : List Slot) : Prop := kM4 f i Q ds Γ Γ[i]?
@[simp ↓] theorem kM3_e {f : D → List D → Option (D × Ou)} {i : Nat} {ds : List D} : kM3 f i Q ds Γ = kM4 f i Q ds Γ Γ[i]? := rfl
def kM2 (f : D → List D → Option (D × Ou)) (i : Nat) (Q : Vl → List Slot → Prop) (ls : List Vl) (Γ : List Slot) : Prop := wp (escA ls Γ) (kM3 f i Q)
@[simp ↓] theorem kM2_e {f : D → List D → Option (D × Ou)} {i : Nat} {ls : List Vl} : kM2 f i Q ls Γ = wp (escA ls Γ) (kM3 f i Q) := rfl
def kM1 (k : D → Bool) (f : D → List D → Option (D × Ou)) (i : Nat) (as : Ta) (Q : Vl → List Slot → Prop) (Γ : List Slot) (s : Option Slot) : Prop := match s with
  | some (.mt _ d) => k d = true ∧ wp (evA as Γ) (kM2 f i Q)
  | _ => False
@[simp ↓] theorem kM1_e {k : D → Bool} {f : D → List D → Option (D × Ou)} {i : Nat} {as : Ta} {b : Bool} {d : D} : kM1 k f i as Q Γ (some (.mt b d)) = (k d = true ∧ wp (evA as Γ) (kM2 f i Q)) := rfl
@[simp ↓] theorem w_mth {k : D → Bool} {f : D → List D → Option (D × Ou)} {i : Nat} {as : Ta} : wp (ev (.mth k f i as) Γ) Q = kM1 k f i as Q Γ Γ[i]? := by
  rw [ev_mth]
  unfold kM1
  cases Γ[i]? with
  | none => rfl
  | some s =>
    cases s with
    | mt b d =>
      dsimp only
      cases hk : k d with
      | false => simp [wp]
      | true =>
        rw [if_pos rfl, wp_bind]
        simp only [true_and]
        congr
        funext ls Γ1
        unfold kM2
        rw [wp_bind]
        congr
        funext ds Γ2
        unfold kM3 kM4
        cases Γ2[i]? with
        | none => rfl
        | some s =>
          cases s with
          | mt b d => dsimp only; unfold kM5; cases f d ds <;> rfl
          | _ => rfl
    | _ => rfl
def kEss2 (Q : Vl → List Slot → Prop) (d : D) (Γ : List Slot) : Prop := Q (.dat d) Γ
@[simp ↓] theorem kEss2_e {d : D} : kEss2 Q d Γ = Q (.dat d) Γ := rfl
def kEss (Q : Vl → List Slot → Prop) (l : Vl) (Γ : List Slot) : Prop := wp (esc l Γ) (kEss2 Q)
@[simp ↓] theorem kEss_e {l : Vl} : kEss Q l Γ = wp (esc l Γ) (kEss2 Q) := rfl
@[simp ↓] theorem w_ess {t : Tm} : wp (ev (.ess t) Γ) Q = wp (ev t Γ) (kEss Q) := by
  rw [ev_ess, wp_bind]
  congr
  funext l Γ1
  rw [wp_bind]
  rfl
/-- statements -/
def kPut (i : Nat) (R : Fl → List Slot → Prop) (d : D) (Γ : List Slot) : Prop := R .nx (Γ.set i (.dat d))
@[simp ↓] theorem kPut_e {i : Nat} {d : D} : kPut i R d Γ = R .nx (Γ.set i (.dat d)) := rfl
def kSet (i : Nat) (R : Fl → List Slot → Prop) (l : Vl) (Γ : List Slot) : Prop := wp ((store i l Γ).bind fun _ Γ2 => .ok .nx Γ2) R
@[simp ↓] theorem kSet_n {i : Nat} {d : D} : kSet i R (.new d) Γ = (i < Γ.length ∧ R .nx (Γ.set i (.mt true d))) := by
  unfold kSet store
  by_cases h : i < Γ.length
  · simp [h]
  · simp [h, wp, Rs.bind]
@[simp ↓] theorem kSet_d {i : Nat} {d : D} : kSet i R (.dat d) Γ = (i < Γ.length ∧ R .nx (Γ.set i (.dat d))) := by
  unfold kSet store
  by_cases h : i < Γ.length
  · simp [h]
  · simp [h, wp, Rs.bind]
@[simp ↓] theorem kSet_r {i j : Nat} : kSet i R (.ref j) Γ = (i < Γ.length ∧ wp (esc (.ref j) Γ) (kPut i R)) := by
  unfold kSet store
  by_cases h : i < Γ.length
  · simp only [h, if_true, wp_bind, true_and]
    rfl
  · simp [h, wp, Rs.bind]
@[simp ↓] theorem w_set {i : Nat} {t : Tm} : wp (ex n (.set i t) Γ) R = wp (ev t Γ) (kSet i R) := by
  rw [ex_set, wp_bind]; rfl
def kBnd (P : List Slot → Prop) (o : Option (List Slot)) : Prop := match o with
  | some Γ => P Γ
  | none => False
@[simp ↓] theorem kBnd_e {P : List Slot → Prop} : kBnd P (some Γ) = P Γ := rfl
def kUnp1 (tg : Tg) (R : Fl → List Slot → Prop) (Γ : List Slot) (d : Option D) : Prop := match d with
  | some (.tup ds) => kBnd (R .nx) (bnd tg (.tup ds) Γ)
  | _ => False
@[simp ↓] theorem kUnp1_e {tg : Tg} {ds : List D} : kUnp1 tg R Γ (some (.tup ds)) = kBnd (R .nx) (bnd tg (.tup ds) Γ) := rfl
def kUnp (tg : Tg) (R : Fl → List Slot → Prop) (l : Vl) (Γ : List Slot) : Prop := kUnp1 tg R Γ (res Γ l)
@[simp ↓] theorem kUnp_e {tg : Tg} {l : Vl} : kUnp tg R l Γ = kUnp1 tg R Γ (res Γ l) := rfl
@[simp ↓] theorem w_unp {tg : Tg} {t : Tm} : wp (ex n (.unp tg t) Γ) R = wp (ev t Γ) (kUnp tg R) := by
  rw [ex_unp, wp_bind]
  congr
  funext l Γ1
  unfold kUnp kUnp1 kBnd
  cases res Γ1 l with
  | none => rfl
  | some d =>
    cases d with
    | tup ds => dsimp only; cases bnd tg (.tup ds) Γ1 <;> rfl
    | _ => rfl
def kPar (is : List Nat) (R : Fl → List Slot → Prop) (ls : List Vl) (Γ : List Slot) : Prop := wp ((storeA is ls Γ).bind fun _ Γ2 => .ok .nx Γ2) R
@[simp ↓] theorem w_par {is : List Nat} {as : Ta} : wp (ex n (.par is as) Γ) R = wp (evA as Γ) (kPar is R) := by
  rw [ex_par, wp_bind]; rfl
@[simp ↓] theorem kPar_nil : kPar [] R [] Γ = R .nx Γ := rfl
@[simp ↓] theorem kPar_d {i : Nat} {is : List Nat} {d : D} {ls : List Vl} : kPar (i :: is) R (.dat d :: ls) Γ = (i < Γ.length ∧ kPar is R ls (Γ.set i (.dat d))) := by
  unfold kPar
  rw [storeA]
  · unfold store
    by_cases h : i < Γ.length
    · simp [h]
    · simp [h, wp, Rs.bind]
  · nofun
@[simp ↓] theorem kPar_n {i : Nat} {is : List Nat} {d : D} {ls : List Vl} : kPar (i :: is) R (.new d :: ls) Γ = (i < Γ.length ∧ kPar is R ls (Γ.set i (.mt true d))) := by
  unfold kPar
  rw [storeA]
  · unfold store
    by_cases h : i < Γ.length
    · simp [h]
    · simp [h, wp, Rs.bind]
  · nofun
def kSub3 (f : D → D → D → Option D) (i : Nat) (R : Fl → List Slot → Prop) (ds : List D) (Γ : List Slot) : Prop := wp (match ds, Γ[i]? with
    | [d, dk], some (.mt b o) => (match f o dk d with
      | some o' => .ok .nx (Γ.set i (.mt b o'))
      | none => .stuck)
    | _, _ => .stuck) R
def kSub5 (i : Nat) (b : Bool) (R : Fl → List Slot → Prop) (Γ : List Slot) (o : Option D) : Prop := match o with
  | some o' => R .nx (Γ.set i (.mt b o'))
  | none => False
@[simp ↓] theorem kSub5_e {i : Nat} {b : Bool} {o : D} : kSub5 i b R Γ (some o) = R .nx (Γ.set i (.mt b o)) := rfl
def kSub4 (f : D → D → D → Option D) (i : Nat) (R : Fl → List Slot → Prop) (d dk : D) (Γ : List Slot) (s : Option Slot) : Prop := match s with
  | some (.mt b o) => kSub5 i b R Γ (f o dk d)
  | _ => False
@[simp ↓] theorem kSub4_e {f : D → D → D → Option D} {i : Nat} {d dk o : D} {b : Bool} : kSub4 f i R d dk Γ (some (.mt b o)) = kSub5 i b R Γ (f o dk d) := rfl
@[simp ↓] theorem kSub3_e {f : D → D → D → Option D} {i : Nat} {d dk : D} : kSub3 f i R [d, dk] Γ = kSub4 f i R d dk Γ Γ[i]? := by
  unfold kSub3 kSub4
  cases Γ[i]? with
  | none => rfl
  | some s =>
    cases s with
    | mt b o => dsimp only; unfold kSub5; cases f o dk d <;> rfl
    | _ => rfl
def kSub2 (f : D → D → D → Option D) (i : Nat) (l : Vl) (R : Fl → List Slot → Prop) (lk : Vl) (Γ : List Slot) : Prop := wp (escA [l, lk] Γ) (kSub3 f i R)
@[simp ↓] theorem kSub2_e {f : D → D → D → Option D} {i : Nat} {l lk : Vl} : kSub2 f i l R lk Γ = wp (escA [l, lk] Γ) (kSub3 f i R) := rfl
def kSub (f : D → D → D → Option D) (i : Nat) (k : Tm) (R : Fl → List Slot → Prop) (l : Vl) (Γ : List Slot) : Prop := wp (ev k Γ) (kSub2 f i l R)
@[simp ↓] theorem kSub_e {f : D → D → D → Option D} {i : Nat} {k : Tm} {l : Vl} : kSub f i k R l Γ = wp (ev k Γ) (kSub2 f i l R) := rfl
@[simp ↓] theorem w_sub {f : D → D → D → Option D} {i : Nat} {k t : Tm} : wp (ex n (.sub f i k t) Γ) R = (isMt Γ i = true ∧ wp (ev t Γ) (kSub f i k R)) := by
  rw [ex_sub]
  cases hm : isMt Γ i with
  | false => simp [wp]
  | true =>
    rw [if_pos rfl, wp_bind]
    simp only [true_and]
    congr
    funext l Γ1
    unfold kSub
    rw [wp_bind]
    congr
    funext lk Γ2
    unfold kSub2
    rw [wp_bind]
    rfl
def kFld3 (cs : List Str) (f : Str) (i : Nat) (R : Fl → List Slot → Prop) (d : D) (Γ : List Slot) (s : Option Slot) : Prop := match s with
  | some (.mt b (.obj c ns vs)) => (ns.length < 900 ∧ cs.contains c = true) ∧ R .nx (Γ.set i (.mt b (.obj c (putN f d ns vs).1 (putN f d ns vs).2)))
  | _ => False
@[simp ↓] theorem kFld3_e {cs : List Str} {f : Str} {i : Nat} {d : D} {b : Bool} {c : Str} {ns : List Str} {vs : List D} : kFld3 cs f i R d Γ (some (.mt b (.obj c ns vs))) = ((ns.length < 900 ∧ cs.contains c = true) ∧ R .nx (Γ.set i (.mt b (.obj c (putN f d ns vs).1 (putN f d ns vs).2)))) := rfl
def kFld2 (cs : List Str) (f : Str) (i : Nat) (R : Fl → List Slot → Prop) (d : D) (Γ : List Slot) : Prop := kFld3 cs f i R d Γ Γ[i]?
@[simp ↓] theorem kFld2_e {cs : List Str} {f : Str} {i : Nat} {d : D} : kFld2 cs f i R d Γ = kFld3 cs f i R d Γ Γ[i]? := rfl
def kFld (cs : List Str) (f : Str) (i : Nat) (R : Fl → List Slot → Prop) (l : Vl) (Γ : List Slot) : Prop := wp (esc l Γ) (kFld2 cs f i R)
@[simp ↓] theorem kFld_e {cs : List Str} {f : Str} {i : Nat} {l : Vl} : kFld cs f i R l Γ = wp (esc l Γ) (kFld2 cs f i R) := rfl
@[simp ↓] theorem w_fld {cs : List Str} {f : Str} {i : Nat} {t : Tm} : wp (ex n (.fld cs f i t) Γ) R = (isMt Γ i = true ∧ wp (ev t Γ) (kFld cs f i R)) := by
  rw [ex_fld]
  cases hm : isMt Γ i with
  | false => simp [wp]
  | true =>
    rw [if_pos rfl, wp_bind]
    simp only [true_and]
    congr
    funext l Γ1
    unfold kFld
    rw [wp_bind]
    congr
    funext d Γ2
    unfold kFld2 kFld3
    cases Γ2[i]? with
    | none => rfl
    | some s =>
      cases s with
      | mt b o =>
        cases o with
        | obj c ns vs =>
          dsimp only
          by_cases h : ns.length < 900 ∧ cs.contains c = true
          · rw [if_pos h]
            apply propext
            exact ⟨fun z => ⟨h, z⟩, fun z => z.2⟩
          · rw [if_neg h]
            apply propext
            exact ⟨fun z => absurd z id, fun z => absurd z.1 h⟩
        | _ => rfl
      | _ => rfl
def kDrop (R : Fl → List Slot → Prop) (l : Vl) (Γ : List Slot) : Prop := R .nx Γ
@[simp ↓] theorem kDrop_e {l : Vl} : kDrop R l Γ = R .nx Γ := rfl
@[simp ↓] theorem w_drop {t : Tm} : wp (ex n (.drop t) Γ) R = wp (ev t Γ) (kDrop R) := by
  rw [ex_drop, wp_bind]; rfl
def kRetS (i : Nat) (Γ : List Slot) (R : Fl → List Slot → Prop) (s : Option Slot) : Prop := wp (match s with
    | some (.dat d) => .ok (.rt (.dat d)) Γ
    | some (.mt true d) => .ok (.rt (.new d)) (Γ.set i .no)
    | _ => .stuck) R
@[simp ↓] theorem kRetS_d {i : Nat} {d : D} : kRetS i Γ R (some (.dat d)) = R (.rt (.dat d)) Γ := rfl
@[simp ↓] theorem kRetS_m {i : Nat} {d : D} : kRetS i Γ R (some (.mt true d)) = R (.rt (.new d)) (Γ.set i .no) := rfl
def kRet (R : Fl → List Slot → Prop) (l : Vl) (Γ : List Slot) : Prop := wp (retV l Γ) R
@[simp ↓] theorem kRet_d {d : D} : kRet R (.dat d) Γ = R (.rt (.dat d)) Γ := rfl
@[simp ↓] theorem kRet_n {d : D} : kRet R (.new d) Γ = R (.rt (.new d)) Γ := rfl
@[simp ↓] theorem kRet_r {i : Nat} : kRet R (.ref i) Γ = kRetS i Γ R Γ[i]? := by
  unfold kRet kRetS retV
  rfl
@[simp ↓] theorem w_ret {t : Tm} : wp (ex n (.ret t) Γ) R = wp (ev t Γ) (kRet R) := by
  rw [ex_ret, wp_bind]; rfl
def kIte (n : Nat) (a b : Ss) (R : Fl → List Slot → Prop) (l : Vl) (Γ : List Slot) : Prop := wp (match l with
    | .dat (.bl true) => exs n a Γ
    | .dat (.bl false) => exs n b Γ
    | _ => .stuck) R
@[simp ↓] theorem kIte_t {a b : Ss} : kIte n a b R (.dat (.bl true)) Γ = wp (exs n a Γ) R := rfl
@[simp ↓] theorem kIte_f {a b : Ss} : kIte n a b R (.dat (.bl false)) Γ = wp (exs n b Γ) R := rfl
@[simp ↓] theorem w_ite {c : Tm} {a b : Ss} : wp (ex n (.ite c a b) Γ) R = wp (ev c Γ) (kIte n a b R) := by
  rw [ex_ite, wp_bind]; rfl
def kFor3 (lk : List Nat) (R : Fl → List Slot → Prop) (f : Fl) (Γ : List Slot) : Prop := R f (unlockA lk Γ)
@[simp ↓] theorem kFor3_e {lk : List Nat} {f : Fl} : kFor3 lk R f Γ = R f (unlockA lk Γ) := rfl
def kFor2 (n : Nat) (tg : Tg) (b : Ss) (R : Fl → List Slot → Prop) (ls : List Vl) (Γ : List Slot) (xs : List D) : Prop := wp (forLoop (exs n b) tg xs (lockA (locks Γ ls) Γ)) (kFor3 (locks Γ ls) R)
@[simp ↓] theorem kFor2_e {tg : Tg} {b : Ss} {ls : List Vl} {xs : List D} : kFor2 n tg b R ls Γ xs = wp (forLoop (exs n b) tg xs (lockA (locks Γ ls) Γ)) (kFor3 (locks Γ ls) R) := rfl
def kFor (n : Nat) (g : List D → Option (List D)) (tg : Tg) (b : Ss) (R : Fl → List Slot → Prop) (ls : List Vl) (Γ : List Slot) : Prop := kGen g (kFor2 n tg b R ls Γ) (resA Γ ls)
@[simp ↓] theorem kFor_e {g : List D → Option (List D)} {tg : Tg} {b : Ss} {ls : List Vl} : kFor n g tg b R ls Γ = kGen g (kFor2 n tg b R ls Γ) (resA Γ ls) := rfl
theorem wp_mapG {α : Type} (r : Rs α) (f : List Slot → List Slot) (Q : α → List Slot → Prop) : wp (r.mapG f) Q = wp r (fun a Γ => Q a (f Γ)) := by
  cases r <;> rfl
theorem ex_forE {g : List D → Option (List D)} {as : Ta} {tg : Tg} {b : Ss} : ex n (.for g as tg b) Γ = (evA as Γ).bind fun ls Γ1 => match resA Γ1 ls with
    | some ds => (match g ds with
      | some xs => (forLoop (exs n b) tg xs (lockA (locks Γ1 ls) Γ1)).mapG (unlockA (locks Γ1 ls))
      | none => .stuck)
    | none => .stuck := by first | (rw [ex]; done) | (rw [ex]; rfl)
@[simp ↓] theorem w_for {g : List D → Option (List D)} {as : Ta} {tg : Tg} {b : Ss} : wp (ex n (.for g as tg b) Γ) R = wp (evA as Γ) (kFor n g tg b R) := by
  rw [ex_forE, wp_bind]
  congr
  funext ls Γ1
  unfold kFor kGen
  cases resA Γ1 ls with
  | none => rfl
  | some ds =>
    show wp (match g ds with | some xs => _ | none => _) R = (match g ds with | some xs => _ | none => _)
    cases g ds with
    | none => rfl
    | some xs => dsimp only; unfold kFor2; rw [wp_mapG]; rfl
@[simp ↓] theorem w_whl {c : Tm} {b : Ss} : wp (ex n (.whl c b) Γ) R = wp (whlLoop (ev c) (exs n b) n Γ) R := by rw [ex_whl]
@[simp ↓] theorem w_brk : wp (ex n .brk Γ) R = R .bk Γ := by rw [ex_brk]; rfl
@[simp ↓] theorem w_cnt : wp (ex n .cnt Γ) R = R .ct Γ := by rw [ex_cnt]; rfl
@[simp ↓] theorem w_pas : wp (ex n .pas Γ) R = R .nx Γ := by rw [ex_pas]; rfl
def kSeq (n : Nat) (r : Ss) (R : Fl → List Slot → Prop) (f : Fl) (Γ : List Slot) : Prop := wp (match f with
    | .nx => exs n r Γ
    | f => .ok f Γ) R
@[simp ↓] theorem kSeq_n {r : Ss} : kSeq n r R .nx Γ = wp (exs n r Γ) R := rfl
@[simp ↓] theorem kSeq_r {r : Ss} {o : Ou} : kSeq n r R (.rt o) Γ = R (.rt o) Γ := rfl
@[simp ↓] theorem kSeq_b {r : Ss} : kSeq n r R .bk Γ = R .bk Γ := rfl
@[simp ↓] theorem kSeq_c {r : Ss} : kSeq n r R .ct Γ = R .ct Γ := rfl
@[simp ↓] theorem w_snil : wp (exs n .nil Γ) R = R .nx Γ := by rw [exs_nil]; rfl
@[simp ↓] theorem w_scons {s : Sm} {r : Ss} : wp (exs n (.cons s r) Γ) R = wp (ex n s Γ) (kSeq n r R) := by
  rw [exs_cons, wp_bind]; rfl
/-- the turns of loops -/
def kTurn (J : List Slot → Prop) (R : Fl → List Slot → Prop) (f : Fl) (Γ : List Slot) : Prop := match f with
  | .nx => J Γ
  | .ct => J Γ
  | .bk => R .nx Γ
  | .rt o => R (.rt o) Γ
@[simp ↓] theorem kTurn_n {J : List Slot → Prop} : kTurn J R .nx Γ = J Γ := rfl
@[simp ↓] theorem kTurn_c {J : List Slot → Prop} : kTurn J R .ct Γ = J Γ := rfl
@[simp ↓] theorem kTurn_b {J : List Slot → Prop} : kTurn J R .bk Γ = R .nx Γ := rfl
@[simp ↓] theorem kTurn_r {J : List Slot → Prop} {o : Ou} : kTurn J R (.rt o) Γ = R (.rt o) Γ := rfl
def kBody (eb : List Slot → Rs Fl) (J : List Slot → Prop) (R : Fl → List Slot → Prop) (Γ : List Slot) : Prop := wp (eb Γ) (kTurn J R)
@[simp ↓] theorem kBody_e {eb : List Slot → Rs Fl} {J : List Slot → Prop} : kBody eb J R Γ = wp (eb Γ) (kTurn J R) := rfl
theorem w_for_nil {eb : List Slot → Rs Fl} {tg : Tg} : wp (forLoop eb tg [] Γ) R = R .nx Γ := rfl
theorem w_for_cons {eb : List Slot → Rs Fl} {tg : Tg} {x : D} {xs : List D} : wp (forLoop eb tg (x :: xs) Γ) R = kBnd (kBody eb (fun Γ => wp (forLoop eb tg xs Γ) R) R) (bnd tg x Γ) := by
  rw [forLoop]
  unfold kBnd
  cases bnd tg x Γ with
  | none => rfl
  | some Γ1 =>
    dsimp only
    rw [wp_bind]
    unfold kBody
    congr
    funext f Γ2
    cases f <;> rfl
end
/-- a loop over things: the invariant tells of what is done -/
theorem wp_for {α : Type} {eb : List Slot → Rs Fl} {tg : Tg} {f : α → D} {l : List α} {R : Fl → List Slot → Prop} (I : List α → List Slot → Prop) {Γ : List Slot} (h0 : I [] Γ)
    (hs : ∀ pre x post Γ, l = pre ++ x :: post → I pre Γ → kBnd (kBody eb (I (pre ++ [x])) R) (bnd tg (f x) Γ)) (he : ∀ Γ, I l Γ → R .nx Γ) : wp (forLoop eb tg (l.map f) Γ) R := by
  suffices ∀ (post pre : List α) Γ, l = pre ++ post → I pre Γ → wp (forLoop eb tg (post.map f) Γ) R from this l [] Γ rfl h0
  intro post
  induction post with
  | nil =>
    intro pre Γ e hI
    rw [List.append_nil] at e
    subst e
    exact he Γ hI
  | cons x post ih =>
    intro pre Γ e hI
    rw [List.map_cons, w_for_cons]
    have := hs pre x post Γ e hI
    unfold kBnd at this ⊢
    cases hb : bnd tg (f x) Γ with
    | none => rw [hb] at this; exact this
    | some Γ1 =>
      rw [hb] at this
      dsimp only at this ⊢
      refine wp_mono this fun a Γ2 q => ?_
      cases a with
      | nx => exact ih (pre ++ [x]) Γ2 (by rw [e]; simp) q
      | ct => exact ih (pre ++ [x]) Γ2 (by rw [e]; simp) q
      | bk => exact q
      | rt o => exact q
/-- a while: n turns at most -/
theorem wp_whl {c : Tm} {b : Ss} {N : Nat} {R : Fl → List Slot → Prop} (m : List Slot → Nat) (I : List Slot → Prop)
    (hs : ∀ Γ, I Γ → wp (ev c Γ) (fun v Γ1 => (v = .dat (.bl false) ∧ R .nx Γ1) ∨ (v = .dat (.bl true) ∧ wp (exs N b Γ1) (kTurn (fun Γ2 => I Γ2 ∧ m Γ2 < m Γ) R)))) :
    ∀ (n : Nat) (Γ : List Slot), I Γ → m Γ < n → wp (whlLoop (ev c) (exs N b) n Γ) R := by
  intro n
  induction n with
  | zero => intro Γ _ h; omega
  | succ n ih =>
    intro Γ hI hm
    rw [whlLoop, wp_bind]
    refine wp_mono (hs Γ hI) fun v Γ1 q => ?_
    rcases q with ⟨rfl, q⟩ | ⟨rfl, q⟩
    · exact q
    · show wp ((exs N b Γ1).bind _) R
      rw [wp_bind]
      refine wp_mono q fun a Γ2 q => ?_
      cases a with
      | nx => exact ih Γ2 q.1 (by have := q.2; omega)
      | ct => exact ih Γ2 q.1 (by have := q.2; omega)
      | bk => exact q
      | rt o => exact q
def kIs {α : Type} (a : α) (Γ : List Slot) (b : α) (Γ1 : List Slot) : Prop := b = a ∧ Γ1 = Γ
@[simp] theorem kIs_e {α : Type} {a b : α} {Γ Γ1 : List Slot} : kIs a Γ b Γ1 = (b = a ∧ Γ1 = Γ) := rfl
theorem wp_is {α : Type} {r : Rs α} {a : α} {Γ : List Slot} (h : wp r (kIs a Γ)) : r = .ok a Γ := by
  obtain ⟨b, Γ1, e, rfl, rfl⟩ := wp_def.mp h
  exact e
/-- a comprehension without changes -/
theorem wp_lc {α : Type} {c e : Tm} {tg : Tg} {own : List Nat} {g : α → D} {l : List α} {Γ : List Slot} {Q : List D → List Slot → Prop} (p : α → Bool) (v : α → D)
    (h : ∀ x ∈ l, kBnd (fun Γ1 => wp (ev c Γ1) (kIs (.dat (.bl (p x))) Γ1) ∧ (p x = true → wp (ev e Γ1) (kIs (.dat (v x)) Γ1)) ∧ wipeG own Γ1 = Γ) (bnd tg (g x) Γ)) (hq : Q ((l.filter p).map v) Γ) : wp (lcLoop (ev c) (ev e) tg own (l.map g) [] Γ) Q := by
  have : ∀ (l : List α) (acc : List D), (∀ x ∈ l, kBnd (fun Γ1 => wp (ev c Γ1) (kIs (.dat (.bl (p x))) Γ1) ∧ (p x = true → wp (ev e Γ1) (kIs (.dat (v x)) Γ1)) ∧ wipeG own Γ1 = Γ) (bnd tg (g x) Γ)) → lcLoop (ev c) (ev e) tg own (l.map g) acc Γ = .ok (acc ++ (l.filter p).map v) Γ := by
    intro l
    induction l with
    | nil => intro acc _; simp [lcLoop]
    | cons x l ih =>
      intro acc h
      have hx := h x List.mem_cons_self
      have ih := fun acc => ih acc fun y hy => h y (List.mem_cons_of_mem _ hy)
      rw [List.map_cons, lcLoop]
      unfold kBnd at hx
      cases hb : bnd tg (g x) Γ with
      | none => rw [hb] at hx; exact absurd hx id
      | some Γ1 =>
        rw [hb] at hx
        dsimp only at hx ⊢
        obtain ⟨h1, h2, h3⟩ := hx
        rw [wp_is h1]
        cases hp : p x with
        | true =>
          simp only [Rs.nox, bind_ok]
          rw [wp_is (h2 hp)]
          simp only [esc_dat, bind_ok, h3]
          rw [ih, List.filter_cons_of_pos hp]
          simp
        | false =>
          simp only [Rs.nox, bind_ok, h3]
          rw [ih, List.filter_cons_of_neg (by rw [hp]; decide)]
  rw [this l [] h]
  exact hq
theorem wp_lcm {α : Type} {e : Tm} {tg : Tg} {own : List Nat} {g : α → D} {l : List α} {Γ : List Slot} {Q : List D → List Slot → Prop} (v : α → D)
    (h : ∀ x ∈ l, kBnd (fun Γ1 => wp (ev e Γ1) (kIs (.dat (v x)) Γ1) ∧ wipeG own Γ1 = Γ) (bnd tg (g x) Γ)) (hq : Q (l.map v) Γ) : wp (lcLoop (ev (.con (.bl true))) (ev e) tg own (l.map g) [] Γ) Q := by
  refine wp_lc (fun _ => true) v (fun x hx => ?_) (by rw [List.filter_eq_self.mpr fun _ _ => rfl]; exact hq)
  have := h x hx
  unfold kBnd at this ⊢
  cases hb : bnd tg (g x) Γ with
  | none => rw [hb] at this; exact this
  | some Γ1 =>
    rw [hb] at this
    exact ⟨by simp, fun _ => this.1, this.2⟩
/-- a comprehension with changes: the invariant tells of what is done and of what was found -/
theorem wp_lci {α : Type} {e : Tm} {tg : Tg} {own : List Nat} {g : α → D} {l : List α} {Γ : List Slot} {Q : List D → List Slot → Prop} (I : List α → List D → List Slot → Prop) (h0 : I [] [] Γ)
    (h : ∀ pre x post acc Γ, l = pre ++ x :: post → I pre acc Γ → kBnd (fun Γ1 => wp (ev e Γ1) (kEss (fun v Γ2 => ∀ d, v = .dat d → I (pre ++ [x]) (acc ++ [d]) (wipeG own Γ2)))) (bnd tg (g x) Γ)) (hq : ∀ acc Γ, I l acc Γ → Q acc Γ) : wp (lcLoop (ev (.con (.bl true))) (ev e) tg own (l.map g) [] Γ) Q := by
  suffices ∀ (post pre : List α) acc Γ, l = pre ++ post → I pre acc Γ → wp (lcLoop (ev (.con (.bl true))) (ev e) tg own (post.map g) acc Γ) Q from this l [] [] Γ rfl h0
  intro post
  induction post with
  | nil =>
    intro pre acc Γ e hI
    rw [List.append_nil] at e
    subst e
    exact hq acc Γ hI
  | cons x post ih =>
    intro pre acc Γ hl hI
    rw [List.map_cons, lcLoop]
    have hx := h pre x post acc Γ hl hI
    unfold kBnd at hx
    cases hb : bnd tg (g x) Γ with
    | none => rw [hb] at hx; exact absurd hx id
    | some Γ1 =>
      rw [hb] at hx
      dsimp only at hx ⊢
      simp only [ev_con, Rs.nox, bind_ok]
      obtain ⟨lv, Γ2, e1, q⟩ := wp_def.mp hx
      rw [e1]
      simp only [bind_ok]
      unfold kEss at q
      obtain ⟨d, Γ3, e2, q⟩ := wp_def.mp q
      rw [e2]
      simp only [bind_ok]
      exact ih (pre ++ [x]) (acc ++ [d]) _ (by rw [hl]; simp) (q d rfl)
/-- a def -/
def kFin2 (Q : Ou → List D → Prop) (o : Ou) (ios : Option (List D)) : Prop := match ios with
  | some ios => Q o ios
  | none => False
@[simp ↓] theorem kFin2_e {Q : Ou → List D → Prop} {o : Ou} {ios : List D} : kFin2 Q o (some ios) = Q o ios := rfl
def kFin (io : List Bool) (Q : Ou → List D → Prop) (f : Fl) (Γ : List Slot) : Prop := match f with
  | .nx => kFin2 Q (.dat .non) (ioOut io Γ)
  | .rt o => kFin2 Q o (ioOut io Γ)
  | _ => False
@[simp ↓] theorem kFin_n {io : List Bool} {Q : Ou → List D → Prop} {Γ : List Slot} : kFin io Q .nx Γ = kFin2 Q (.dat .non) (ioOut io Γ) := rfl
@[simp ↓] theorem kFin_r {io : List Bool} {Q : Ou → List D → Prop} {o : Ou} {Γ : List Slot} : kFin io Q (.rt o) Γ = kFin2 Q o (ioOut io Γ) := rfl
/-- a call comes to something that is as asked -/
def Gv (r : FR) (Q : Ou → List D → Prop) : Prop := ∃ o ios, r = .ok o ios ∧ Q o ios
theorem runF_wp {io : List Bool} {m n : Nat} {b : Ss} {ds : List D} {Q : Ou → List D → Prop} (hl : ds.length = io.length) (h : wp (exs n b (initG io ds ++ List.replicate m .no)) (kFin io Q)) : Gv (runF io m n b ds) Q := by
  obtain ⟨f, Γ, e, q⟩ := wp_def.mp h
  unfold kFin at q
  unfold runF
  rw [if_pos hl, e]
  dsimp only
  cases f with
  | nx =>
    dsimp only at q
    unfold kFin2 at q
    cases hi : ioOut io Γ with
    | none => rw [hi] at q; exact absurd q id
    | some ios => rw [hi] at q; exact ⟨_, _, rfl, q⟩
  | rt o =>
    dsimp only at q
    unfold kFin2 at q
    cases hi : ioOut io Γ with
    | none => rw [hi] at q; exact absurd q id
    | some ios => rw [hi] at q; exact ⟨_, _, rfl, q⟩
  | bk => exact absurd q id
  | ct => exact absurd q id
theorem Gv.eq {r : FR} {o : Ou} {ios : List D} (h : Gv r (fun a b => a = o ∧ b = ios)) : r = .ok o ios := by
  obtain ⟨_, _, e, rfl, rfl⟩ := h
  exact e
/-- calls, by their promise -/
theorem w_call0 {f : Fn} {ls : List Vl} {ds : List D} {Γ : List Slot} {Q : Vl → List Slot → Prop} {P : Ou → List D → Prop} (hd : resA Γ ls = some ds) (hx : ioIx f.io ls = some []) (hl : lent Γ f.io ls = []) (h : Gv (f.F ds) P) (k : ∀ o ios, P o ios → ios = [] ∧ Q o.vl Γ) : wp (evCall f ls Γ) Q := by
  obtain ⟨o, ios, e, p⟩ := h
  obtain ⟨rfl, q⟩ := k o ios p
  have : evCall f ls Γ = .ok o.vl Γ := by simp [evCall, hd, hx, hl, e, putA]
  rw [this]
  exact q
end MP

end
-- PR
section
/-! PR: repr and == of data without texts. -/
namespace MP
open PySem L2
theorem ok_of (s : String) : PyData.strOk (Str.ofString s) = true := by
  rw [Str.ofString_eq_toList]
  unfold PyData.strOk
  rw [← Array.all_toList, List.all_eq_true]
  intro c hc
  simp only [List.mem_map] at hc
  obtain ⟨ch, _, rfl⟩ := hc
  have h := ch.valid
  have : ch.toNat < 0x110000 := by
    rcases h with h | ⟨_, h⟩
    · exact Nat.lt_trans h (by decide)
    · exact h
  exact decide_eq_true this
theorem ok_app {a b : Str} (ha : PyData.strOk a = true) (hb : PyData.strOk b = true) : PyData.strOk (a ++ b) = true := by
  unfold PyData.strOk at *
  rw [Str.cps_append, Array.all_append, ha, hb]
  rfl
theorem ok_join {sep : Str} (hs : PyData.strOk sep = true) : ∀ l : List Str, (∀ x ∈ l, PyData.strOk x = true) → PyData.strOk (Str.join sep l) = true
  | [], _ => by simp [Str.join, Str.empty, PyData.strOk]
  | [x], h => h x List.mem_cons_self
  | x :: y :: r, h => ok_app (ok_app (h x List.mem_cons_self) hs) (ok_join hs (y :: r) fun z hz => h z (List.mem_cons_of_mem _ hz))
mutual
/-- no texts, no dicts; small numbers -/
def sm : D → Bool
  | .non => true
  | .bl _ => true
  | .int i => decide (i.natAbs < 1000000000000)
  | .tup xs => smA xs
  | .lst xs => smA xs
  | _ => false
def smA : List D → Bool
  | [] => true
  | x :: xs => sm x && smA xs
end
mutual
def dp : D → Nat
  | .tup xs => dpA xs + 1
  | .lst xs => dpA xs + 1
  | _ => 0
def dpA : List D → Nat
  | [] => 0
  | x :: xs => max (dp x) (dpA xs)
end
mutual
def wt : D → Nat
  | .tup xs => wtA xs
  | .lst xs => wtA xs
  | .int _ => 40
  | _ => 0
def wtA : List D → Nat
  | [] => 0
  | x :: xs => wt x + 1 + wtA xs
end
theorem log_12 {n : Nat} (h : n < 1000000000000) : n.log2 < 40 := by
  by_cases hn : n = 0
  · subst hn; decide
  · exact (Nat.log2_lt hn).mpr (Nat.lt_trans h (by decide))
structure PyOk (d : D) (p : PyData) : Prop where
  to : toPy d = some p
  sh : p.showable = true
  lv : p.leavesShort 13 = true
  dp : p.depth = dp d
  wt : p.weight ≤ wt d
  ok : PyData.strOk p.shown = true
  ly : p.canLay0 = true
mutual
theorem sm_py : ∀ (d : D), sm d = true → ∃ p, PyOk d p
  | .non, _ => ⟨.none, rfl, rfl, rfl, rfl, Nat.le_refl _, by rw [PyData.shown_none]; exact ok_of _, rfl⟩
  | .bl b, _ => ⟨.bool b, rfl, rfl, rfl, rfl, Nat.le_refl _, by rw [PyData.shown_bool]; cases b <;> exact ok_of _, rfl⟩
  | .int i, h => by
    have h' : i.natAbs < 1000000000000 := by simpa [sm] using h
    have l := log_12 h'
    refine ⟨.int i, rfl, by simp [PyData.showable]; omega, ?_, rfl, ?_, by rw [PyData.shown_int]; exact ok_of _, rfl⟩
    · simp only [PyData.leavesShort, decide_eq_true_eq]
      exact PyData.shown_int_le (Nat.lt_of_lt_of_le h' (by decide))
    · simp only [PyData.weight, wt]
      split <;> omega
  | .tup xs, h => by
    obtain ⟨ps, h1, h2, h3, h4, h5, h6, h7⟩ := sm_pyA xs (by simpa [sm] using h)
    refine ⟨.tuple ps, by simp [toPy, h1], by simpa [PyData.showable] using h2, by simpa [PyData.leavesShort] using h3, by simp [PyData.depth, dp, h4], by simpa [PyData.weight, wt] using h5, ?_, by simpa [PyData.canLay0] using h7⟩
    rw [PyData.shown_tuple]
    exact ok_app (ok_app (ok_of _) (ok_join (ok_of _) _ h6)) (ok_of _)
  | .lst xs, h => by
    obtain ⟨ps, h1, h2, h3, h4, h5, h6, h7⟩ := sm_pyA xs (by simpa [sm] using h)
    refine ⟨.list ps, by simp [toPy, h1], by simpa [PyData.showable] using h2, by simpa [PyData.leavesShort] using h3, by simp [PyData.depth, dp, h4], by simpa [PyData.weight, wt] using h5, ?_, by simpa [PyData.canLay0] using h7⟩
    rw [PyData.shown_list]
    exact ok_app (ok_app (ok_of _) (ok_join (ok_of _) _ h6)) (ok_of _)
  | .str _, h => by simp [sm] at h
  | .dct _ _, h => by simp [sm] at h
  | .obj _ _ _, h => by simp [sm] at h
theorem sm_pyA : ∀ (ds : List D), smA ds = true → ∃ ps, toPyA ds = some ps ∧ PyData.showableAll ps = true ∧ PyData.leavesShortAll 13 ps = true ∧ PyData.depthAll ps = dpA ds ∧ PyData.weightAll ps ≤ wtA ds ∧ (∀ x ∈ PyData.shownAll ps, PyData.strOk x = true) ∧ PyData.canLayAll0 ps = true
  | [], _ => ⟨[], rfl, rfl, rfl, rfl, Nat.le_refl _, (by rw [PyData.shownAll_nil]; nofun), rfl⟩
  | d :: ds, h => by
    have h' : sm d = true ∧ smA ds = true := by simpa [smA] using h
    obtain ⟨p, q⟩ := sm_py d h'.1
    obtain ⟨ps, h1, h2, h3, h4, h5, h6, h7⟩ := sm_pyA ds h'.2
    refine ⟨p :: ps, by simp [toPyA, q.to, h1], by simp [PyData.showableAll, q.sh, h2], by simp [PyData.leavesShortAll, q.lv, h3], by simp [PyData.depthAll, dpA, q.dp, h4], ?_, ?_, by simp [PyData.canLayAll0, q.ly, h7]⟩
    · have := q.wt
      simp only [PyData.weightAll, wtA]
      omega
    · rw [PyData.shownAll_cons]
      intro x hx
      rcases List.mem_cons.mp hx with rfl | hx
      · exact q.ok
      · exact h6 x hx
end
theorem rep_ok {xs : List D} (hs : smA xs = true) (hd : dpA xs < 64) (hw : wtA xs ≤ 600000) : (∃ S, pRepr [.lst xs] = some (.dat (.str S)) ∧ PyData.strOk S = true) ∧ ∃ S, pRepr [.tup xs] = some (.dat (.str S)) ∧ PyData.strOk S = true := by
  have lim : (600000 + 13) * 15 ≤ LIM := by decide
  constructor
  · obtain ⟨p, q⟩ := sm_py (.lst xs) (by simpa [sm] using hs)
    have l := PyData.shown_le 13 (by decide) p q.lv
    have w := q.wt
    have d := q.dp
    simp only [dp, wt] at d w
    have : p.shown.length ≤ LIM := by omega
    exact ⟨p.shown, by simp [pRepr, pShow, q.to, q.sh, this]; omega, q.ok⟩
  · obtain ⟨p, q⟩ := sm_py (.tup xs) (by simpa [sm] using hs)
    have l := PyData.shown_le 13 (by decide) p q.lv
    have w := q.wt
    have d := q.dp
    simp only [dp, wt] at d w
    have : p.shown.length ≤ LIM := by omega
    exact ⟨p.shown, by simp [pRepr, pShow, q.to, q.sh, this]; omega, q.ok⟩
theorem sm_shp {d : D} (h : sm d = true) (hd : dp d ≤ 60) : ∃ p, shp d = some p := by
  obtain ⟨p, q⟩ := sm_py d h
  have := q.dp
  refine ⟨p, ?_⟩
  unfold shp
  rw [q.to]
  have : SeqAt.shaped p = true := by
    unfold SeqAt.shaped
    simp [q.ly]
    omega
  simp [this]
theorem eqS {d : D} (h : sm d = true) (hd : dp d ≤ 60) : pCmpT .Eq [d, d] = some (.dat (.bl true)) := by
  obtain ⟨p, e⟩ := sm_shp h hd
  have r := SeqAt.eqv_refl p (SeqAt.canLay_of_shaped (shp_ok e).2)
  have : pCmp .Eq [d, d] = some (.dat (.bl true)) := by
    show pEqF d d = _
    have z : pEq false d d = some (.dat (.bl true)) := by simp [pEq, e, r]
    cases d <;> first | exact z | (simp only [pEqF, ne_eq, not_true, if_false]; exact z)
  unfold pCmpT orP
  dsimp only
  rw [this]
theorem neS {d : D} (h : sm d = true) (hd : dp d ≤ 60) : pCmpT .NotEq [d, d] = some (.dat (.bl false)) := by
  obtain ⟨p, e⟩ := sm_shp h hd
  have r := SeqAt.eqv_refl p (SeqAt.canLay_of_shaped (shp_ok e).2)
  have : pCmp .NotEq [d, d] = some (.dat (.bl false)) := by
    show pEq true d d = _
    simp [pEq, e, r]
  unfold pCmpT orP
  dsimp only
  rw [this]
theorem neT {x : Str} (h : PyData.strOk x = true) : pCmpT .NotEq [.str x, .str x] = some (.dat (.bl false)) := by
  have := neStr h
  unfold pCmpT orP
  dsimp only
  rw [this]
theorem eqT' {x : Str} (h : PyData.strOk x = true) : pCmpT .Eq [.str x, .str x] = some (.dat (.bl true)) := by
  have h1 : shp (.str x) = some (.str x) := by simp [shp, toPy, SeqAt.shaped, PyData.canLay0, PyData.depth, h]
  have : pCmp .Eq [.str x, .str x] = some (.dat (.bl true)) := by simp [pCmp, pEqF, pEq, h1, PyData.eqv]
  unfold pCmpT orP
  dsimp only
  rw [this]
theorem smA_map {α : Type} {f : α → D} {l : List α} (h : ∀ x ∈ l, sm (f x) = true) : smA (l.map f) = true := by
  induction l with
  | nil => rfl
  | cons x l ih => simp [smA, h x List.mem_cons_self, ih fun y hy => h y (List.mem_cons_of_mem _ hy)]
theorem dpA_map {α : Type} {f : α → D} {l : List α} {k : Nat} (h : ∀ x ∈ l, dp (f x) ≤ k) : dpA (l.map f) ≤ k := by
  induction l with
  | nil => exact Nat.zero_le _
  | cons x l ih =>
    have a := h x List.mem_cons_self
    have b := ih fun y hy => h y (List.mem_cons_of_mem _ hy)
    simp only [List.map_cons, dpA]
    omega
theorem wtA_map {α : Type} {f : α → D} {l : List α} {k : Nat} (h : ∀ x ∈ l, wt (f x) ≤ k) : wtA (l.map f) ≤ l.length * (k + 1) := by
  induction l with
  | nil => exact Nat.zero_le _
  | cons x l ih =>
    have a := h x List.mem_cons_self
    have b := ih fun y hy => h y (List.mem_cons_of_mem _ hy)
    simp only [List.map_cons, wtA, List.length_cons, Nat.succ_mul]
    omega
end MP

end
-- PS
section
/-! PS: primitives for simp. -/
namespace MP
open PySem L2
@[simp] theorem le_lim (n : Nat) : (n ≤ LIM) = (n ≤ 10000000) := rfl
@[simp] theorem lt_lim (n : Nat) : (n < LIM) = (n < 10000000) := rfl
@[simp] theorem dLst_s {ds : List D} (h : ds.length ≤ 10000000) : dLst ds = some (.new (.lst ds)) := if_pos h
@[simp] theorem dTup_s {ds : List D} (h : ds.length ≤ 10000000) : dTup ds = some (.dat (.tup ds)) := if_pos h
@[simp] theorem dDct_s : dDct [] = some (.new (.dct [] [])) := rfl
@[simp] theorem gSeq_l {xs : List D} : gSeq [.lst xs] = some xs := rfl
@[simp] theorem gSeq_t {xs : List D} : gSeq [.tup xs] = some xs := rfl
@[simp] theorem isL_l {xs : List D} : isL (.lst xs) = true := rfl
@[simp] theorem isDct_d {ks vs : List D} : isDct (.dct ks vs) = true := rfl
@[simp] theorem mApp_s {xs : List D} {d : D} (h : xs.length < 10000000) : mApp (.lst xs) [d] = some (.lst (xs ++ [d]), .dat .non) := if_pos h
@[simp] theorem pLen_l {xs : List D} : pLen [.lst xs] = some (.dat (.int xs.length)) := rfl
@[simp] theorem pLen_t {xs : List D} : pLen [.tup xs] = some (.dat (.int xs.length)) := rfl
@[simp] theorem pTup_l {xs : List D} : pTup [.lst xs] = some (.dat (.tup xs)) := rfl
@[simp] theorem pTup_t {xs : List D} : pTup [.tup xs] = some (.dat (.tup xs)) := rfl
@[simp] theorem pLst_l {xs : List D} : pLst [.lst xs] = some (.new (.lst xs)) := rfl
@[simp] theorem pLst_t {xs : List D} : pLst [.tup xs] = some (.new (.lst xs)) := rfl
@[simp] theorem pInt_i {i : Int} : pInt [.int i] = some (.dat (.int i)) := rfl
@[simp] theorem pInt_b {b : Bool} : pInt [.bl b] = some (.dat (.int (if b then 1 else 0))) := rfl
@[simp] theorem pTru_n : pTru [.non] = some (.dat (.bl false)) := rfl
@[simp] theorem pTru_i {i : Int} : pTru [.int i] = some (.dat (.bl (i != 0))) := rfl
@[simp] theorem pTru_l {xs : List D} : pTru [.lst xs] = some (.dat (.bl (!xs.isEmpty))) := rfl
@[simp] theorem pTru_t {xs : List D} : pTru [.tup xs] = some (.dat (.bl (!xs.isEmpty))) := rfl
@[simp] theorem pNeg_i {i : Int} : pNeg [.int i] = some (.dat (.int (-i))) := rfl
@[simp] theorem pRev_l {xs : List D} : pRev [.lst xs] = some (.new (.lst xs.reverse)) := rfl
def mx2 (i j : Int) : Int := if j > i then j else i
def mn2 (i j : Int) : Int := if j < i then j else i
theorem mx2_e (i j : Int) : mx2 i j = max i j := by unfold mx2; split <;> omega
theorem mn2_e (i j : Int) : mn2 i j = min i j := by unfold mn2; split <;> omega
@[simp] theorem pMax_2 {i j : Int} : pMax [.int i, .int j] = some (.dat (.int (mx2 i j))) := rfl
@[simp] theorem pMin_2 {i j : Int} : pMin [.int i, .int j] = some (.dat (.int (mn2 i j))) := rfl
@[simp] theorem cat_l {xs ys : List D} (h : xs.length + ys.length ≤ 10000000) : pBin .Add [.lst xs, .lst ys] = some (.new (.lst (xs ++ ys))) := if_pos h
@[simp] theorem cat_t {xs ys : List D} (h : xs.length + ys.length ≤ 10000000) : pBin .Add [.tup xs, .tup ys] = some (.dat (.tup (xs ++ ys))) := if_pos h
@[simp] theorem gRng1_n {n : Nat} (h : n < 1000000) : gRng1 [.int (n : Int)] = some ((List.range n).map fun i : Nat => D.int (i : Int)) := by
  have : -R62 ≤ (n : Int) ∧ (n : Int) < R62 := by unfold R62; omega
  simp [gRng1, this, rngD]
@[simp] theorem gRng1_0 : gRng1 [.int 0] = some ((List.range 0).map fun i : Nat => D.int (i : Int)) := gRng1_n (n := 0) (by decide)
@[simp] theorem gRng1_1 : gRng1 [.int 1] = some ((List.range 1).map fun i : Nat => D.int (i : Int)) := gRng1_n (n := 1) (by decide)
@[simp] theorem gRng1_2 : gRng1 [.int 2] = some ((List.range 2).map fun i : Nat => D.int (i : Int)) := gRng1_n (n := 2) (by decide)
@[simp] theorem gRng1_3 : gRng1 [.int 3] = some ((List.range 3).map fun i : Nat => D.int (i : Int)) := gRng1_n (n := 3) (by decide)
@[simp] theorem gRng1_4 : gRng1 [.int 4] = some ((List.range 4).map fun i : Nat => D.int (i : Int)) := gRng1_n (n := 4) (by decide)
@[simp] theorem gRng1_5 : gRng1 [.int 5] = some ((List.range 5).map fun i : Nat => D.int (i : Int)) := gRng1_n (n := 5) (by decide)
@[simp] theorem gRng1_6 : gRng1 [.int 6] = some ((List.range 6).map fun i : Nat => D.int (i : Int)) := gRng1_n (n := 6) (by decide)
@[simp] theorem gRng1_7 : gRng1 [.int 7] = some ((List.range 7).map fun i : Nat => D.int (i : Int)) := gRng1_n (n := 7) (by decide)
@[simp] theorem gRng1_8 : gRng1 [.int 8] = some ((List.range 8).map fun i : Nat => D.int (i : Int)) := gRng1_n (n := 8) (by decide)
@[simp] theorem gRng1_9 : gRng1 [.int 9] = some ((List.range 9).map fun i : Nat => D.int (i : Int)) := gRng1_n (n := 9) (by decide)
@[simp] theorem gRng1_10 : gRng1 [.int 10] = some ((List.range 10).map fun i : Nat => D.int (i : Int)) := gRng1_n (n := 10) (by decide)
@[simp] theorem gRng1_11 : gRng1 [.int 11] = some ((List.range 11).map fun i : Nat => D.int (i : Int)) := gRng1_n (n := 11) (by decide)
@[simp] theorem gRng1_12 : gRng1 [.int 12] = some ((List.range 12).map fun i : Nat => D.int (i : Int)) := gRng1_n (n := 12) (by decide)
@[simp] theorem gRng1_13 : gRng1 [.int 13] = some ((List.range 13).map fun i : Nat => D.int (i : Int)) := gRng1_n (n := 13) (by decide)
@[simp] theorem gRng1_14 : gRng1 [.int 14] = some ((List.range 14).map fun i : Nat => D.int (i : Int)) := gRng1_n (n := 14) (by decide)
@[simp] theorem gRng1_15 : gRng1 [.int 15] = some ((List.range 15).map fun i : Nat => D.int (i : Int)) := gRng1_n (n := 15) (by decide)
@[simp] theorem gRng1_16 : gRng1 [.int 16] = some ((List.range 16).map fun i : Nat => D.int (i : Int)) := gRng1_n (n := 16) (by decide)
@[simp] theorem gRng1_17 : gRng1 [.int 17] = some ((List.range 17).map fun i : Nat => D.int (i : Int)) := gRng1_n (n := 17) (by decide)
@[simp] theorem gRng1_18 : gRng1 [.int 18] = some ((List.range 18).map fun i : Nat => D.int (i : Int)) := gRng1_n (n := 18) (by decide)
@[simp] theorem gRng1_19 : gRng1 [.int 19] = some ((List.range 19).map fun i : Nat => D.int (i : Int)) := gRng1_n (n := 19) (by decide)
@[simp] theorem gRng1_20 : gRng1 [.int 20] = some ((List.range 20).map fun i : Nat => D.int (i : Int)) := gRng1_n (n := 20) (by decide)
@[simp] theorem gRng1_30 : gRng1 [.int 30] = some ((List.range 30).map fun i : Nat => D.int (i : Int)) := gRng1_n (n := 30) (by decide)
@[simp] theorem gRng1_40 : gRng1 [.int 40] = some ((List.range 40).map fun i : Nat => D.int (i : Int)) := gRng1_n (n := 40) (by decide)
@[simp] theorem gRng1_41 : gRng1 [.int 41] = some ((List.range 41).map fun i : Nat => D.int (i : Int)) := gRng1_n (n := 41) (by decide)
@[simp] theorem gRng1_99 : gRng1 [.int 99] = some ((List.range 99).map fun i : Nat => D.int (i : Int)) := gRng1_n (n := 99) (by decide)
@[simp] theorem gRng1_100 : gRng1 [.int 100] = some ((List.range 100).map fun i : Nat => D.int (i : Int)) := gRng1_n (n := 100) (by decide)
@[simp] theorem gRng1_101 : gRng1 [.int 101] = some ((List.range 101).map fun i : Nat => D.int (i : Int)) := gRng1_n (n := 101) (by decide)
@[simp] theorem pYes_e (d : D) : pYes [d] = some (.dat (.bl true)) := rfl
@[simp] theorem bools_map {α : Type} (p : α → Bool) (l : List α) : bools? (l.map fun x => D.bl (p x)) = some (l.map p) := by
  induction l with
  | nil => rfl
  | cons x l ih => simp [bools?, ih]
theorem all_map {α : Type} (p : α → Bool) (l : List α) : pAll [.lst (l.map fun x => D.bl (p x))] = some (.dat (.bl (l.all p))) := by
  simp only [pAll, bools_map]
  simp [List.all_map, Function.comp_def]
theorem any_map {α : Type} (p : α → Bool) (l : List α) : pAny [.lst (l.map fun x => D.bl (p x))] = some (.dat (.bl (l.any p))) := by
  simp only [pAny, bools_map]
  simp [List.any_map, Function.comp_def]
@[simp] theorem res_ref (Γ : List Slot) (i : Nat) : res Γ (.ref i) = (match Γ[i]? with
    | some (.dat d) => some d
    | some (.mt _ d) => some d
    | some (.lck _ d) => some d
    | _ => none) := rfl
@[simp] theorem locks_nil (Γ : List Slot) : locks Γ [] = [] := rfl
@[simp] theorem locks_d (Γ : List Slot) (d : D) (ls : List Vl) : locks Γ (.dat d :: ls) = locks Γ ls := rfl
@[simp] theorem locks_n (Γ : List Slot) (d : D) (ls : List Vl) : locks Γ (.new d :: ls) = locks Γ ls := rfl
@[simp] theorem lockA_nil (Γ : List Slot) : lockA [] Γ = Γ := rfl
@[simp] theorem unlockA_nil (Γ : List Slot) : unlockA [] Γ = Γ := rfl
@[simp] theorem wipe_nil (Γ : List Slot) : wipeG [] Γ = Γ := rfl
@[simp] theorem wipe_cons (v : Nat) (vs : List Nat) (Γ : List Slot) : wipeG (v :: vs) Γ = (wipeG vs Γ).set v .no := rfl
@[simp] theorem keep_nil (Γ0 Γ : List Slot) : keepG [] Γ0 Γ = Γ := rfl
@[simp] theorem keep_cons (v : Nat) (vs : List Nat) (Γ0 Γ : List Slot) : keepG (v :: vs) Γ0 Γ = (keepG vs Γ0 Γ).set v (Γ0[v]?.getD .no) := rfl
@[simp] theorem noMut_nil (Γ : List Slot) : noMut [] Γ = true := rfl
@[simp] theorem noMut_cons (v : Nat) (vs : List Nat) (Γ : List Slot) : noMut (v :: vs) Γ = ((match Γ[v]? with
  | some (.mt _ _) => false
  | some (.lck _ _) => false
  | _ => true) && noMut vs Γ) := by first | (simp [noMut]; done) | (simp [noMut]; rfl)
@[simp] theorem isMt_e (Γ : List Slot) (i : Nat) : isMt Γ i = (match Γ[i]? with
  | some (.mt _ _) => true
  | _ => false) := rfl
@[simp] theorem bnd_nm (i : Nat) (d : D) (Γ : List Slot) : bnd (.nm i) d Γ = if i < Γ.length then some (Γ.set i (.dat d)) else none := by rw [bnd]
@[simp] theorem bnd_nil (Γ : List Slot) : bnd .nil (.tup []) Γ = some Γ := by rw [bnd]
@[simp] theorem bnd_cons (a r : Tg) (d : D) (ds : List D) (Γ : List Slot) : bnd (.cons a r) (.tup (d :: ds)) Γ = (match bnd a d Γ with
    | some Γ1 => bnd r (.tup ds) Γ1
    | none => none) := by first | (rw [bnd]; done) | (rw [bnd]; rfl)
end MP

end
-- Q28
section
namespace Lw
open PySem L2 MP
theorem sm_w {w : Int × Int} (h : Win w) : sm (wD w) = true := by
  obtain ⟨a, b, c, d⟩ := h
  simp [wD, sm, smA]; omega
theorem sm_e {n : Int} (hn : n < 1000) {e : E3} (h : 0 ≤ e.1 ∧ e.1 < n ∧ 0 ≤ e.2.1 ∧ e.2.1 < n ∧ (e.2.2 = 0 ∨ e.2.2 = 1)) : sm (eD e) = true := by
  obtain ⟨a, b, c, d, f⟩ := h
  simp [eD, sm, smA]; omega
theorem Mod.smw {ws es} (M : Mod ws es) : sm (.tup (ws.map wD)) = true := by
  simp only [sm]; exact smA_map fun w hw => sm_w (M.win w hw)
theorem Mod.sme {ws es} (M : Mod ws es) : sm (.tup (es.map eD)) = true := by
  have := M.few
  simp only [sm]; exact smA_map fun e he => sm_e (by omega) (M.edg.rng e he)
theorem dp_ws (ws : List (Int × Int)) : dp (.tup (ws.map wD)) ≤ 2 := by
  have : dpA (ws.map wD) ≤ 1 := dpA_map fun w _ => by simp [wD, dp, dpA]
  simp only [dp]; omega
theorem dp_es (es : List E3) : dp (.tup (es.map eD)) ≤ 2 := by
  have : dpA (es.map eD) ≤ 1 := dpA_map fun w _ => by simp [eD, dp, dpA]
  simp only [dp]; omega
theorem wt_ws (ws : List (Int × Int)) : wt (.tup (ws.map wD)) ≤ ws.length * 83 := by
  simp only [wt]; exact wtA_map (k := 82) fun w _ => by simp [wD, wt, wtA]
theorem wt_es (es : List E3) : wt (.tup (es.map eD)) ≤ es.length * 124 := by
  simp only [wt]; exact wtA_map (k := 123) fun w _ => by simp [eD, wt, wtA]
theorem Mod.len {ws es} (M : Mod ws es) : es.length ≤ 4096 := M.edg.len (by have := M.few; omega)
theorem rep_mod {ws es} (M : Mod ws es) : ∃ S, pRepr [.lst [.tup (ws.map wD), .tup (es.map eD)]] = some (.dat (.str S)) ∧ PyData.strOk S = true := by
  have a := dp_ws ws
  have b := dp_es es
  have c := wt_ws ws
  have d := wt_es es
  have e := M.len
  have f := M.few
  exact (rep_ok (by simp [smA, M.smw, M.sme]) (by simp only [dpA]; omega) (by simp only [wtA]; omega)).1
@[simp] theorem ix_m0 (ws es) : orP pIx pDIx [modD ws es, .int 0] = some (.dat (.tup (ws.map wD))) := by simp [modD]
@[simp] theorem ix_m1 (ws es) : orP pIx pDIx [modD ws es, .int 1] = some (.dat (.tup (es.map eD))) := by simp [modD]
@[simp] theorem ix_w0 (w) : orP pIx pDIx [wD w, .int 0] = some (.dat (.int w.1)) := by simp [wD]
@[simp] theorem ix_w1 (w) : orP pIx pDIx [wD w, .int 1] = some (.dat (.int w.2)) := by simp [wD]
def RightOk (f : Fn) : Prop := f.io = [true] ∧ ∀ bg, Bag bg → ∃ bg', Bag bg' ∧ f.F [bg] = .ok (.dat (.bl true)) [bg']
theorem prop_r {f : Fn} {d : D} {xs : List D} {Γ : List Slot} {i : Nat} {b : Bool} (io : f.io = [false]) (hi : Γ[i]? = some (.mt b d)) (h : f.F [d] = .ok (.dat (.tup xs)) []) : evCall f [.ref i] Γ = .ok (.dat (.tup xs)) (Γ.set i (.dat d)) := by
  simp [evCall, res, ioIx, io, hi, h, lent, putA, isMt, Ou.scal, MP.scal, freezeA, freeze1]
theorem call_m3 {f : Fn} {d e e' : D} {o : Ou} {Γ : List Slot} {i : Nat} {b : Bool} (io : f.io = [false, false, false]) (hs : o.scal = false) (hi : Γ[i]? = some (.mt b d)) (h : f.F [d, e, e'] = .ok o []) : evCall f [.ref i, .dat e, .dat e'] Γ = .ok o.vl (Γ.set i (.dat d)) := by
  simp [evCall, ioIx, io, hi, h, lent, putA, hs, freezeA, freeze1]
theorem call_dn {f : Fn} {d e : D} {o : Ou} {Γ : List Slot} (io : f.io = [false, false]) (h : f.F [d, e] = .ok o []) : evCall f [.dat d, .new e] Γ = .ok o.vl Γ := by
  simp [evCall, ioIx, io, h, lent, putA]
theorem call_nd {f : Fn} {d e : D} {o : Ou} {Γ : List Slot} (io : f.io = [false, false]) (h : f.F [d, e] = .ok o []) : evCall f [.new d, .dat e] Γ = .ok o.vl Γ := by
  simp [evCall, ioIx, io, h, lent, putA]
theorem call_n1 {f : Fn} {d : D} {o : Ou} {Γ : List Slot} (io : f.io = [false]) (h : f.F [d] = .ok o []) : evCall f [.new d] Γ = .ok o.vl Γ := by
  simp [evCall, ioIx, io, h, lent, putA]
theorem right_ok {g : Fs} (T : ThrowOk g.f__law_throw) (K : PickOk g.f__law_pick) (P : PlanOk g.f__law_plan) (W : WideOk g.f__law_wide) (O : ObjOk g.f__law_object) (L : LbOk g.f__law_bounded) (B : BinOk g.f_bounded) (Wn : WnsOk g.c_Jobs_windows) (E : EdsOk g.c_Jobs_edges) (Q : EqOk' g.c_Jobs___eq__) : RightOk (step g).f__law_right := by
  refine ⟨rfl, fun bg hb => ?_⟩
  obtain ⟨ws0, es, bg1, hb1, M0, e1⟩ := P.2 bg 6 9 hb (by decide) (by decide) (by decide) (by decide)
  obtain ⟨ws, bg2, hb2, M, e2⟩ := W.2 bg1 ws0 es hb1 M0
  obtain ⟨o, w, e3⟩ := O.2 ws es M
  suffices h : Gv ((step g).f__law_right.F [bg]) (fun o ios => o = .dat (.bl true) ∧ ∃ bg', Bag bg' ∧ ios = [bg']) by
    obtain ⟨_, _, e, rfl, bg', hb', rfl⟩ := h
    exact ⟨bg', hb', e⟩
  rw [r_f__law_right]
  refine runF_wp rfl ?_
  unfold tm_f__law_right
  have c1 := fun Γ h => call_io3 (i := 0) (b := false) (Γ := Γ) P.1 h e1
  have c2 := fun Γ h => call_io2 (i := 0) (b := false) (Γ := Γ) W.1 h e2
  have c3 := fun Γ => call_d1 (Γ := Γ) O.1 e3
  have fl := M.few
  have l1 : ws.length ≤ 10000000 := by omega
  have l2 : 6 + ws.length ≤ 10000000 := by omega
  have l3 : ws.length + 1 + 1 + 1 + 1 + 1 + 1 + ws.length ≤ 10000000 := by omega
  simp [initG, List.replicate, c1, c2, c3, l1]
  refine wp_lcm (α := Int × Int) (fun w => .int w.1) (fun w _ => ?_) ?_
  · simp
  simp [l1, l2]
  refine wp_lcm (α := Int × Int) (fun w => .int (w.2 + 1)) (fun w _ => ?_) ?_
  · simp
  simp [l3]
  generalize hends : (List.map (fun w : Int × Int => D.int w.1) ws ++ List.map (fun w : Int × Int => D.int (w.2 + 1)) ws) = ends
  have he : ∀ d ∈ ends, ∃ i, d = .int i := by
    intro d hd
    rw [← hends] at hd
    simp at hd
    rcases hd with ⟨a, b, _, rfl⟩ | ⟨a, b, _, rfl⟩ <;> exact ⟨_, rfl⟩
  have hl : ends.length ≤ 24 := by rw [← hends]; simp; omega
  clear hends
  refine wp_for (α := Nat) (fun _ Γ => ∃ bg s2 a5 a6 a7 a8 a9, Bag bg ∧ Sl s2 (jobD ws es o w) ∧ Γ = [.mt false bg, .dat (modD ws es), s2, .mt true (.lst (.int 0 :: .int 1 :: .int 2 :: .int 50 :: .int 99 :: .int 100 :: ends)), .no, a5, a6, a7, a8, a9]) ?_ ?_ ?_
  · exact ⟨_, _, _, _, _, _, _, hb2, .inr rfl, rfl⟩
  · rintro pre x post Γ - ⟨bg, s2, a5, a6, a7, a8, a9, hb, hs, rfl⟩
    obtain ⟨d, bg3, hb3, hd, cp⟩ := pck K hb [.str "length", .str "begin", .str "late"] (by simp) (by simp)
    obtain ⟨k, rfl⟩ : ∃ k : Wo, d = .str k.s := by
      simp only [List.mem_cons, List.not_mem_nil, or_false] at hd
      rcases hd with rfl | rfl | rfl
      · exact ⟨.ln, rfl⟩
      · exact ⟨.bg, rfl⟩
      · exact ⟨.lt, rfl⟩
    obtain ⟨r, bg4, hb4, r0, r1, ct⟩ := thr T hb3 101 (by decide) (by decide)
    obtain ⟨v, bg5, hb5, hv, cv⟩ := pck K hb4 (.int 0 :: .int 1 :: .int 2 :: .int 50 :: .int 99 :: .int 100 :: (ends ++ [.int r])) (by simp) (by simp; omega)
    obtain ⟨i, rfl⟩ : ∃ i, v = .int i := by
      simp only [List.mem_cons, List.mem_append, List.not_mem_nil, or_false] at hv
      rcases hv with rfl | rfl | rfl | rfl | rfl | rfl | h | rfl
      all_goals first | exact ⟨_, rfl⟩ | exact he _ h
    have kq := eqT_str (eq_ln k)
    have l4 : ends.length + 1 + 1 + 1 + 1 + 1 + 1 + 1 ≤ 10000000 := by omega
    obtain ⟨n, hn⟩ : ∃ n : Int, n = mx2 (if k.ln? = true then 1 else 0) (mn2 100 i) := ⟨_, rfl⟩
    obtain ⟨n0, n1⟩ : k.least ≤ n ∧ n ≤ 100 := by
      rw [hn, mx2_e, mn2_e]
      cases k <;> simp only [Wo.ln?, Wo.least, if_true, Bool.false_eq_true, if_false] <;> omega
    have eL := L.2 ws es k n M
    obtain ⟨o1, w1, eB⟩ := B.2 ws es o w k n M n0 n1
    have M1 := mod_bw M n0 n1
    have cL := fun Γ => call_d3 (Γ := Γ) L.1 eL
    have cB := fun Γ => call_d3 (Γ := Γ) B.1 eB
    have cB' := fun Γ h => call_m3 (Γ := Γ) (i := 2) (b := true) B.1 rfl h eB
    obtain ⟨S, hS, hok⟩ := rep_mod M1
    have nS := neT hok
    have cw := fun Γ h => prop_r (Γ := Γ) (i := 9) (b := true) (f := noxF g.c_Jobs_windows) Wn.1 h (nox (Wn.2 (ws.map (bw k n)) es o1 w1))
    have ce := fun Γ => call_d1 (Γ := Γ) (f := noxF g.c_Jobs_edges) E.1 (nox (E.2 (ws.map (bw k n)) es o1 w1 M1))
    obtain ⟨o2, w2, eO⟩ := O.2 _ _ M1
    have cO := fun Γ => call_d1 (Γ := Γ) O.1 eO
    have eq1 := (eqT_ok Q).2 (ws.map (bw k n)) es o1 w1 o2 w2 M1
    have cq := fun Γ => call_dn (Γ := Γ) (eqT_ok Q).1 eq1
    obtain ⟨o3, w3, eB5⟩ := B.2 (ws.map (bw k n)) es o1 w1 .ln 5 M1 (by decide) (by decide)
    have cB5 := fun Γ => call_d3 (Γ := Γ) B.1 eB5
    have cL5 := fun Γ => call_d3 (Γ := Γ) L.1 (L.2 (ws.map (bw k n)) es .ln 5 M1)
    have M2 := mod_bw (k := .ln) (n := 5) M1 (by decide) (by decide)
    have cw5 := fun Γ => call_n1 (Γ := Γ) (f := noxF g.c_Jobs_windows) Wn.1 (nox (Wn.2 ((ws.map (bw k n)).map (bw .ln 5)) es o3 w3))
    have n5 := neS M2.smw (Nat.le_trans (dp_ws _) (by decide))
    simp only [Wo.s] at cB5 cL5
    generalize (ws.map (bw k n)).map (bw .ln 5) = ws2 at *
    generalize ws.map (bw k n) = ws1 at *
    rcases hs with rfl | rfl
    · simp [cp, kq, l4, ct, cv, ← hn, cL, cB, sel_w, sel_e, cw, ce, hS, nS, cO, cq, cB5, cL5, cw5, n5]
      exact ⟨hb5, .inl rfl⟩
    · simp [cp, kq, l4, ct, cv, ← hn, cL, cB', sel_w, sel_e, cw, ce, hS, nS, cO, cq, cB5, cL5, cw5, n5]
      exact ⟨hb5, .inl rfl⟩
  · rintro Γ ⟨bg, s2, a5, a6, a7, a8, a9, hb, hs, rfl⟩
    have e1 := eqS M.smw (Nat.le_trans (dp_ws _) (by decide))
    have e2 := eqS M.sme (Nat.le_trans (dp_es _) (by decide))
    have ce := fun Γ => call_d1 (Γ := Γ) (f := noxF g.c_Jobs_edges) E.1 (nox (E.2 ws es o w M))
    have cw := fun Γ h => prop_r (Γ := Γ) (i := 2) (b := true) (f := noxF g.c_Jobs_windows) Wn.1 h (nox (Wn.2 ws es o w))
    have cw' := fun Γ => call_d1 (Γ := Γ) (f := noxF g.c_Jobs_windows) Wn.1 (nox (Wn.2 ws es o w))
    rcases hs with rfl | rfl
    · simp [sel_w, sel_e, cw', ce, e1, e2, ioOut, hb]
    · simp [sel_w, sel_e, cw, ce, e1, e2, ioOut, hb]
end Lw

end
-- Q29
section
namespace Lw
open PySem L2 MP
def StartOk (f : Fn) : Prop := f.io = [false, false] ∧ ∀ (ns : List Int) (at_ : Int), 0 ≤ at_ → ∃ bg, Bag bg ∧ f.F [.lst (ns.map D.int), .int at_] = .ok (.new bg) []
theorem cells (k : Int) (n : Nat) (h0 : 0 ≤ k) (hk : k < 1000) : ∃ m : Nat, m < 1000000 ∧ mx2 1 (mn2 k (n : Int)) = (m : Int) := ⟨(mx2 1 (mn2 k (n : Int))).toNat, by rw [mx2_e, mn2_e]; omega, by rw [mx2_e, mn2_e]; omega⟩
def W3 : List (Int × Int) := [(2, 5), (100, 0), (98, 99)]
theorem mod3 : Mod W3 [] := ⟨by simp [W3, Win], by decide, edges_nil⟩
theorem start_ok_ (g : Fs) : StartOk (step g).f__law_start := ⟨rfl, fun ns a h => start_ok g ns a h⟩
theorem law_ok {g : Fs} (S : StartOk g.f__law_start) (Rt : RightOk g.f__law_right) (B : BinOk g.f_bounded) (Wn : WnsOk g.c_Jobs_windows) (I : InitOk g.c_Jobs___init__) (Q : EqOk' g.c_Jobs___eq__) (ns : List Int) : (step g).f_law.F [.lst (ns.map D.int)] = .ok (.dat (.bl true)) [] := by
  apply Gv.eq
  rw [r_f_law]
  refine runF_wp rfl ?_
  unfold tm_f_law
  obtain ⟨m, hm, em⟩ := cells 6 ns.length (by decide) (by decide)
  have hr : gRng1 [.int (mx2 1 (mn2 6 (ns.length : Int)))] = some ((List.range m).map fun i : Nat => D.int (i : Int)) := by rw [em]; exact gRng1_n hm
  clear hm em
  simp [initG, List.replicate, hr]
  refine wp_for (α := Nat) (fun _ Γ => ∃ a1 a2 a3, Γ = [.dat (.lst (ns.map D.int)), a1, a2, a3, .no, .no, .no]) ⟨_, _, _, rfl⟩ ?_ ?_
  · rintro pre x post Γ - ⟨a1, a2, a3, rfl⟩
    obtain ⟨bg, hb, e⟩ := S.2 ns x (by omega)
    have c := fun Γ => call_d2 (Γ := Γ) S.1 e
    simp [c]
    refine wp_for (α := Nat) (fun _ Γ => ∃ bg a3, Bag bg ∧ Γ = [.dat (.lst (ns.map D.int)), .dat (.int (x : Int)), .mt true bg, a3, .no, .no, .no]) ⟨_, _, hb, rfl⟩ ?_ ?_
    · rintro pre y post Γ - ⟨bg, a3, hb, rfl⟩
      obtain ⟨bg', hb', e⟩ := Rt.2 bg hb
      have c := fun Γ h => call_io1 (i := 2) (b := true) (Γ := Γ) Rt.1 h e
      simp [c, hb']
    · rintro Γ ⟨bg, a3, hb, rfl⟩
      simp
  · rintro Γ ⟨a1, a2, a3, rfl⟩
    obtain ⟨mi, mk⟩ := mk_ok1 I
    obtain ⟨o, w, ek⟩ := mk W3 mod3
    have ck := fun Γ => call_d1 (Γ := Γ) mi ek
    obtain ⟨o1, w1, e1⟩ := B.2 W3 [] o w .ln 1 mod3 (by decide) (by decide)
    obtain ⟨o2, w2, e2⟩ := B.2 W3 [] o w .bg 100 mod3 (by decide) (by decide)
    obtain ⟨o3, w3, e3⟩ := B.2 W3 [] o w .lt 100 mod3 (by decide) (by decide)
    obtain ⟨o4, w4, e4⟩ := B.2 W3 [] o w .lt 0 mod3 (by decide) (by decide)
    obtain ⟨o5, w5, e5⟩ := B.2 W3 [] o w .ln 100 mod3 (by decide) (by decide)
    rw [show W3.map (bw .lt 0) = W3 from rfl] at e4
    rw [show W3.map (bw .ln 100) = W3 from rfl] at e5
    have c1 := fun Γ h => call_m3 (Γ := Γ) (i := 4) (b := true) B.1 rfl h e1
    have c2 := fun Γ => call_d3 (Γ := Γ) B.1 e2
    have c3 := fun Γ => call_d3 (Γ := Γ) B.1 e3
    have c4 := fun Γ => call_d3 (Γ := Γ) B.1 e4
    have c5 := fun Γ => call_d3 (Γ := Γ) B.1 e5
    have cw := fun ws o w Γ => call_n1 (Γ := Γ) (f := noxF g.c_Jobs_windows) Wn.1 (nox (Wn.2 ws [] o w))
    have cq := fun o w o' w' Γ => call_nd (Γ := Γ) (eqT_ok Q).1 ((eqT_ok Q).2 W3 [] o w o' w' mod3)
    have q := eqS (d := .lst [.tup ((W3.map (bw .ln 1)).map wD), .tup ((W3.map (bw .bg 100)).map wD), .tup ((W3.map (bw .lt 100)).map wD), .bl true, .bl true]) rfl (by decide)
    simp only [Wo.s] at c1 c2 c3 c4 c5
    have ek' : D.tup [.tup [.int 2, .int 5], .tup [.int 100, .int 0], .tup [.int 98, .int 99]] = .tup (W3.map wD) := rfl
    have d1 : D.tup [.tup [.int 2, .int 0], .tup [.int 100, .int 0], .tup [.int 98, .int 0]] = .tup ((W3.map (bw .ln 1)).map wD) := rfl
    have d2 : D.tup [.tup [.int 100, .int 5], .tup [.int 100, .int 0], .tup [.int 100, .int 99]] = .tup ((W3.map (bw .bg 100)).map wD) := rfl
    have d3 : D.tup [.tup [.int 2, .int 99], .tup [.int 100, .int 99], .tup [.int 98, .int 99]] = .tup ((W3.map (bw .lt 100)).map wD) := rfl
    generalize (W3.map (bw .ln 1)) = u1 at *
    generalize (W3.map (bw .bg 100)) = u2 at *
    generalize (W3.map (bw .lt 100)) = u3 at *
    generalize W3 = u0 at *
    simp [ck, c1, c2, c3, c4, c5, sel_w, cw, cq, q, ioOut, ek', d1, d2, d3]
end Lw

end
-- Fin_k54
section
namespace Lw
open PySem L2 MP
theorem z_StartOk_f__law_start (k : Nat) : StartOk (G (k + 1)).f__law_start := start_ok_ (G (k + 0)) 
theorem z_ThrowOk_f__law_throw (k : Nat) : ThrowOk (G (k + 1)).f__law_throw := throw_ok (G (k + 0)) 
theorem z_PickOk_f__law_pick (k : Nat) : PickOk (G (k + 2)).f__law_pick := pick_ok  (z_ThrowOk_f__law_throw (k + 0))
theorem z_MakeOk_f__law_holed_jobs (k : Nat) : MakeOk (G (k + 2)).f__law_holed_jobs := hole_ok  (z_ThrowOk_f__law_throw (k + 0))
theorem z_MakeOk_f__law_pushing_jobs (k : Nat) : MakeOk (G (k + 3)).f__law_pushing_jobs := push_ok  (z_ThrowOk_f__law_throw (k + 1)) (z_PickOk_f__law_pick (k + 0))
theorem z_ShufOk_f__law_shuffled (k : Nat) : ShufOk (G (k + 2)).f__law_shuffled := shuf_ok  (z_ThrowOk_f__law_throw (k + 0))
theorem z_TurnOk_f__law_turned (k : Nat) : TurnOk (G (k + 3)).f__law_turned := turn_ok  (z_ShufOk_f__law_shuffled (k + 0))
theorem z_DrawOk_f__law_drawn_spans (k : Nat) : DrawOk (G (k + 3)).f__law_drawn_spans := draw_ok  (z_ThrowOk_f__law_throw (k + 1)) (z_PickOk_f__law_pick (k + 0))
theorem z_LinkOk_f__law_linked (k : Nat) : LinkOk (G (k + 3)).f__law_linked := link_ok  (z_ThrowOk_f__law_throw (k + 1)) (z_ShufOk_f__law_shuffled (k + 0))
theorem z_PlanOk_f__law_plan (k : Nat) : PlanOk (G (k + 4)).f__law_plan := plan_ok  (z_ThrowOk_f__law_throw (k + 2)) (z_PickOk_f__law_pick (k + 1)) (z_MakeOk_f__law_holed_jobs (k + 1)) (z_MakeOk_f__law_pushing_jobs (k + 0)) (z_TurnOk_f__law_turned (k + 0)) (z_DrawOk_f__law_drawn_spans (k + 0)) (z_LinkOk_f__law_linked (k + 0))
theorem z_WideOk_f__law_wide (k : Nat) : WideOk (G (k + 3)).f__law_wide := wide_ok  (z_PickOk_f__law_pick (k + 0))
theorem z_IntgOk_f_is_integer (k : Nat) : IntgOk (G (k + 1)).f_is_integer := intg_ok (G (k + 0)) 
theorem z_BetwOk_f_is_between (k : Nat) : BetwOk (G (k + 2)).f_is_between := betw_ok  (z_IntgOk_f_is_integer (k + 0))
theorem z_WindOk_f_is_window (k : Nat) : WindOk (G (k + 3)).f_is_window := wind_ok  (z_BetwOk_f_is_between (k + 0))
theorem z_EdgeOk_f_is_edge (k : Nat) : EdgeOk (G (k + 2)).f_is_edge := edge_ok  (z_IntgOk_f_is_integer (k + 0))
theorem z_GapsOk_f_gaps_of (k : Nat) : GapsOk (G (k + 1)).f_gaps_of := gaps_ok (G (k + 0)) 
theorem z_OrdOk_f_onward_order (k : Nat) : OrdOk (G (k + 1)).f_onward_order := ord_ok (G (k + 0)) 
theorem z_WaysOk_f_ways_by (k : Nat) : WaysOk (G (k + 1)).f_ways_by := ways_ok (G (k + 0)) 
theorem z_InitOk_c_Jobs___init__ (k : Nat) : InitOk (G (k + 4)).c_Jobs___init__ := init_ok  (z_WindOk_f_is_window (k + 0)) (z_EdgeOk_f_is_edge (k + 1)) (z_GapsOk_f_gaps_of (k + 2)) (z_OrdOk_f_onward_order (k + 2)) (z_WaysOk_f_ways_by (k + 2))
theorem z_ObjOk_f__law_object (k : Nat) : ObjOk (G (k + 5)).f__law_object := obj_ok  (z_InitOk_c_Jobs___init__ (k + 0))
theorem z_LbOk_f__law_bounded (k : Nat) : LbOk (G (k + 1)).f__law_bounded := lb_ok (G (k + 0)) 
theorem z_RqjOk_f_require_jobs (k : Nat) : RqjOk (G (k + 1)).f_require_jobs := rqj_ok (G (k + 0)) 
theorem z_RqwOk_f_require_word (k : Nat) : RqwOk (G (k + 1)).f_require_word := rqw_ok (G (k + 0)) 
theorem z_NumOk_f_is_number_for (k : Nat) : NumOk (G (k + 3)).f_is_number_for := num_ok  (z_BetwOk_f_is_between (k + 0))
theorem z_BwOk_f_bounded_window (k : Nat) : BwOk (G (k + 1)).f_bounded_window := bw_ok (G (k + 0)) 
theorem z_MovOk_f_moved_edges (k : Nat) : MovOk (G (k + 1)).f_moved_edges := mov_ok (G (k + 0)) 
theorem z_EdsOk_c_Jobs_edges (k : Nat) : EdsOk (G (k + 2)).c_Jobs_edges := eds_ok  (z_MovOk_f_moved_edges (k + 0))
theorem z_ChgOk_c_Jobs_with_windows_in (k : Nat) : ChgOk (G (k + 5)).c_Jobs_with_windows_in := chg_ok  (z_InitOk_c_Jobs___init__ (k + 0)) (z_EdsOk_c_Jobs_edges (k + 2))
theorem z_BinOk_f_bounded_in (k : Nat) : BinOk (G (k + 6)).f_bounded_in := bin_ok  (z_BwOk_f_bounded_window (k + 4)) (z_ChgOk_c_Jobs_with_windows_in (k + 0))
theorem z_BinOk_f_bounded (k : Nat) : BinOk (G (k + 7)).f_bounded := bou_ok  (z_RqjOk_f_require_jobs (k + 5)) (z_RqwOk_f_require_word (k + 5)) (z_NumOk_f_is_number_for (k + 3)) (z_BinOk_f_bounded_in (k + 0))
theorem z_WnsOk_c_Jobs_windows (k : Nat) : WnsOk (G (k + 1)).c_Jobs_windows := wns_ok (G (k + 0)) 
theorem z_EqOk__c_Jobs___eq__ (k : Nat) : EqOk' (G (k + 1)).c_Jobs___eq__ := eq_ok (G (k + 0)) 
theorem z_RightOk_f__law_right (k : Nat) : RightOk (G (k + 8)).f__law_right := right_ok  (z_ThrowOk_f__law_throw (k + 6)) (z_PickOk_f__law_pick (k + 5)) (z_PlanOk_f__law_plan (k + 3)) (z_WideOk_f__law_wide (k + 4)) (z_ObjOk_f__law_object (k + 2)) (z_LbOk_f__law_bounded (k + 6)) (z_BinOk_f_bounded (k + 0)) (z_WnsOk_c_Jobs_windows (k + 6)) (z_EdsOk_c_Jobs_edges (k + 5)) (z_EqOk__c_Jobs___eq__ (k + 6))
theorem plain (ns : List Int) : (G 16).f_law.F [.lst (ns.map D.int)] = .ok (.dat (.bl true)) [] := law_ok (g := G 15) (z_StartOk_f__law_start 14) (z_RightOk_f__law_right 7) (z_BinOk_f_bounded 8) (z_WnsOk_c_Jobs_windows 14) (z_InitOk_c_Jobs___init__ 11) (z_EqOk__c_Jobs___eq__ 14) ns
end Lw
theorem fin_k54 : PySem.Challenge.rw_loadgaps_k54_bounded_jobs.Holds := law_end fun ns _ => Lw.plain ns

end
theorem PySem.Challenge.cw_loadgaps_k54_bounded_jobs_holds : PySem.Challenge.rw_loadgaps_k54_bounded_jobs.Holds := by
  exact fin_k54
