import PyProof.Rows.All
import HandS.ForMost
import HandS.IsInst
import HandS.Walk
import HandS.Deep
import HandS.Exc
import HandS.ExcOwn
import HandS.Style
import HandS.EndBits
import HandS.WideBits
import HandS.TupAny
import HandS.SortInts
import KE.SortData
import PyProof.ReprRoads
import HandS.SetFor
import HandS.Strs
import PyProof.TupleOfSeq
import HandS.Conv
import KE.BitLaws
import PyProof.ReprLen
import KE.GoesEnum
import PyProof.SliceList
import HandS.OwnEq
import PyProof.InstNe
import HandS.ExcInit
import HandS.ExcField
import KE.KExcInit
import PyProof.Rows.TupDisplay
import KE.KDictDisplayH
import HandS.More
import PySem.Challenge.RW_fairshelves_k46_whole_never_more
set_option Elab.async false
set_option linter.all false
set_option maxRecDepth 100000
set_option maxHeartbeats 4000000
set_option autoImplicit false
/-! Values in place of heaps: a layer over the hand layer. A state is a list of slots; what is frozen never changes, what a slot owns is its alone. -/
namespace Py
open PySem PySem.Spec PyProof.Rows L2

abbrev D := PyData
/-- what stands at an owned address -/
inductive Cell where
  | lst (ds : List D)
  | dct (kvs : List (Key × D))
  | ins (c : Str) (fs : List (Str × Option D))
  | dtt (ks : List (List Int))
/-- an expression's value: frozen data, a frozen object, something new, what the slot i owns -/
inductive Frz where
  | sc (ns : List Int)
  | tp (xs : List (Sum D (Str × List (Str × Option D))))
  | rg (j : Int)
inductive W where
  | dat (d : D)
  | obj (c : Str) (fs : List (Str × Option D))
  | scr (x : Frz)
  | fresh (c : Cell)
  | own (i : Nat)
inductive Slot where
  | val (w : W)
  | own (c : Cell)
  | ref (c : Cell)
abbrev Env' := List (Option Slot)
inductive R (α : Type) where
  | ok (a : α) (ρ : Env')
  | ex (c : Str) (d : Option D) (ρ : Env')
def bnd {α β : Type} (x : Option (R α)) (f : α → Env' → Option (R β)) : Option (R β) :=
  match x with
  | none => none
  | some (.ok a ρ) => f a ρ
  | some (.ex c d ρ) => some (.ex c d ρ)
@[simp] theorem bnd_ok {α β : Type} (a : α) (ρ : Env') (f : α → Env' → Option (R β)) : bnd (some (.ok a ρ)) f = f a ρ := rfl
@[simp] theorem bnd_none {α β : Type} (f : α → Env' → Option (R β)) : bnd (none : Option (R α)) f = none := rfl
@[simp] theorem bnd_ex {α β : Type} (c : Str) (d : Option D) (ρ : Env') (f : α → Env' → Option (R β)) : bnd (some (.ex c d ρ) : Option (R α)) f = some (.ex c d ρ) := rfl
abbrev ES := Env' → Option (R W)
abbrev AS := Env' → Option (R (List W))
abbrev BS := Env' → Option (R Bool)

/-! ### data in a heap -/
def noTag : HO → Bool
  | .dT _ => false
  | _ => true
/-- what is no tag in G stands in H -/
def Sm (G H : Hp) : Prop := ∀ a x, G a = some x → noTag x = true → H a = some x
def keyD : Key → D
  | .inl i => .int i
  | .inr x => .str x
mutual
inductive Rep (K : PySem.W.Frag) (G : Hp) : V → D → Prop
  | non : Rep K G .non .none
  | bl (b : Bool) : Rep K G (.bl b) (.bool b)
  | int (i : Int) : Rep K G (.int i) (.int i)
  | str (x : Str) : Rep K G (.str x) (.str x)
  | lst {a : Addr} {xs : List V} {ds : List D} : G a = some (.lst xs) → RepAll K G xs ds → Rep K G (.ref a) (.list ds)
  | tup {a : Addr} {xs : List V} {ds : List D} : G a = some (.tup xs) → RepAll K G xs ds → Rep K G (.ref a) (.tuple ds)
  | dic {a : Addr} {ks : List (Key × V)} {kvs : List (D × D)} : G a = some (.dK ks) → kvs.map (·.1) = ks.map (fun p => keyD p.1) → RepAll K G (ks.map (·.2)) (kvs.map (·.2)) → Rep K G (.ref a) (.dict kvs)
inductive RepAll (K : PySem.W.Frag) (G : Hp) : List V → List D → Prop
  | nil : RepAll K G [] []
  | cons {v : V} {vs : List V} {d : D} {ds : List D} : Rep K G v d → RepAll K G vs ds → RepAll K G (v :: vs) (d :: ds)
end
theorem sm_seqL {K : PySem.W.Frag} {H H' : Hp} {a : Addr} {xs : List V} (e : Sm H H') (h : SqL K H a xs) : SqL K H' a xs := by
  rcases h with (h | ⟨o, h⟩) | h
  · exact .inl (.inl (e _ _ h rfl))
  · exact .inl (.inr ⟨o, e _ _ h rfl⟩)
  · exact .inr h
theorem sm_seqT {K : PySem.W.Frag} {H H' : Hp} {a : Addr} {xs : List V} (e : Sm H H') (h : SqT K H a xs) : SqT K H' a xs := by
  rcases h with (h | ⟨o, h⟩) | h
  · exact .inl (.inl (e _ _ h rfl))
  · exact .inl (.inr ⟨o, e _ _ h rfl⟩)
  · exact .inr h
theorem Same.seqT {K : PySem.W.Frag} {H H' : Hp} {a : Addr} {xs : List V} (e : Same H H') (h : SqT K H a xs) : SqT K H' a xs := by
  rcases h with (h | ⟨o, h⟩) | h
  · exact .inl (.inl (e _ _ h))
  · exact .inl (.inr ⟨o, e _ _ h⟩)
  · exact .inr h
section
variable {K : PySem.W.Frag} {G G' : Hp}
mutual
theorem Rep.mono (e : Same G G') : ∀ {v : V} {d : D}, Rep K G v d → Rep K G' v d
  | _, _, .non => .non
  | _, _, .bl b => .bl b
  | _, _, .int i => .int i
  | _, _, .str x => .str x
  | _, _, .lst h r => .lst (e _ _ h) (RepAll.mono e r)
  | _, _, .tup h r => .tup (e _ _ h) (RepAll.mono e r)
  | _, _, .dic h k r => .dic (e _ _ h) k (RepAll.mono e r)
theorem RepAll.mono (e : Same G G') : ∀ {vs : List V} {ds : List D}, RepAll K G vs ds → RepAll K G' vs ds
  | _, _, .nil => .nil
  | _, _, .cons h r => .cons (Rep.mono e h) (RepAll.mono e r)
end
mutual
theorem Rep.smono (e : Sm G G') : ∀ {v : V} {d : D}, Rep K G v d → Rep K G' v d
  | _, _, .non => .non
  | _, _, .bl b => .bl b
  | _, _, .int i => .int i
  | _, _, .str x => .str x
  | _, _, .lst h r => .lst (e _ _ h rfl) (RepAll.smono e r)
  | _, _, .tup h r => .tup (e _ _ h rfl) (RepAll.smono e r)
  | _, _, .dic h k r => .dic (e _ _ h rfl) k (RepAll.smono e r)
theorem RepAll.smono (e : Sm G G') : ∀ {vs : List V} {ds : List D}, RepAll K G vs ds → RepAll K G' vs ds
  | _, _, .nil => .nil
  | _, _, .cons h r => .cons (Rep.smono e h) (RepAll.smono e r)
end
theorem RepAll.length : ∀ {vs : List V} {ds : List D}, RepAll K G vs ds → vs.length = ds.length
  | _, _, .nil => rfl
  | _, _, .cons _ r => by simp [RepAll.length r]
theorem RepAll.get : ∀ {vs : List V} {ds : List D} {i : Nat} {d : D}, RepAll K G vs ds → ds[i]? = some d → ∃ v, vs[i]? = some v ∧ Rep K G v d
  | _, _, _, _, .nil, e => by simp at e
  | _, _, 0, _, .cons h _, e => by simp at e; subst e; exact ⟨_, rfl, h⟩
  | _, _, i + 1, d, .cons _ r, e => by
    obtain ⟨v, h1, h2⟩ := RepAll.get (i := i) (d := d) r (by simpa using e)
    exact ⟨v, by simpa using h1, h2⟩
theorem RepAll.get' : ∀ {vs : List V} {ds : List D} {i : Nat} {v : V}, RepAll K G vs ds → vs[i]? = some v → ∃ d, ds[i]? = some d ∧ Rep K G v d
  | _, _, _, _, .nil, e => by simp at e
  | _, _, 0, _, .cons h _, e => by simp at e; subst e; exact ⟨_, rfl, h⟩
  | _, _, i + 1, d, .cons _ r, e => by
    obtain ⟨v, h1, h2⟩ := RepAll.get' (i := i) (v := d) r (by simpa using e)
    exact ⟨v, by simpa using h1, h2⟩
theorem RepAll.append : ∀ {vs ws : List V} {ds es : List D}, RepAll K G vs ds → RepAll K G ws es → RepAll K G (vs ++ ws) (ds ++ es)
  | _, _, _, _, .nil, s => s
  | _, _, _, _, .cons h r, s => .cons h (RepAll.append r s)
theorem RepAll.take : ∀ {vs : List V} {ds : List D} (n : Nat), RepAll K G vs ds → RepAll K G (vs.take n) (ds.take n)
  | _, _, 0, _ => .nil
  | _, _, _ + 1, .nil => .nil
  | _, _, n + 1, .cons h r => .cons h (RepAll.take n r)
theorem RepAll.drop : ∀ {vs : List V} {ds : List D} (n : Nat), RepAll K G vs ds → RepAll K G (vs.drop n) (ds.drop n)
  | _, _, 0, r => r
  | _, _, _ + 1, .nil => .nil
  | _, _, n + 1, .cons _ r => RepAll.drop n r
theorem RepAll.set {v : V} {d : D} (h : Rep K G v d) : ∀ {vs : List V} {ds : List D} (i : Nat), RepAll K G vs ds → RepAll K G (vs.set i v) (ds.set i d)
  | _, _, _, .nil => .nil
  | _, _, 0, .cons _ r => .cons h r
  | _, _, i + 1, .cons q r => .cons q (RepAll.set h i r)
theorem RepAll.reverse : ∀ {vs : List V} {ds : List D}, RepAll K G vs ds → RepAll K G vs.reverse ds.reverse
  | _, _, .nil => .nil
  | _, _, .cons h r => by
    rw [List.reverse_cons, List.reverse_cons]
    exact RepAll.append (RepAll.reverse r) (.cons h .nil)
theorem RepAll.dropLast : ∀ {vs : List V} {ds : List D}, RepAll K G vs ds → RepAll K G vs.dropLast ds.dropLast
  | _, _, .nil => .nil
  | _, _, .cons _ .nil => .nil
  | _, _, .cons h (.cons h2 r) => .cons h (RepAll.dropLast (.cons h2 r))
theorem RepAll.ints : ∀ {ns : List Int} {vs : List V}, RepAll K G vs (ns.map PyData.int) → vs = ns.map V.int
  | [], _, h => by cases h; rfl
  | n :: ns, _, h => by
    cases h with
    | cons h r =>
      cases h
      rw [RepAll.ints r]
      rfl
theorem RepAll.ofInts : ∀ (ns : List Int), RepAll K G (ns.map V.int) (ns.map PyData.int)
  | [] => .nil
  | n :: ns => .cons (.int n) (RepAll.ofInts ns)
end

/-! ### what a frozen object keeps for itself: its dict stands in G as a tag that names its owner -/
def tagO (a : Addr) : HO := .dT [([], V.ref a)]
/-- the lots that a store keeps, in the order in which they are found -/
def ledOn (ds es : List Nat) (b : Nat) : List Nat := ds.map (fun k => b ||| k) ++ es.map (fun k => b ^^^ (b &&& k))
def closeD (ds es : List Nat) : Nat → List Nat → List Nat → List Nat
  | 0, found, _ => found
  | _ + 1, found, [] => found
  | n + 1, found, w :: ws => match (w :: ws).getLast? with
    | none => found
    | some b => if b ∈ found then closeD ds es n found (w :: ws).dropLast else closeD ds es n (found ++ [b]) ((w :: ws).dropLast ++ (ledOn ds es b).filter fun x => !decide (x ∈ found ++ [b]))
def flatsOf (ds es : List Nat) : List Nat := closeD ds es 100000 [] [0]
def natD (ks : List Nat) : List D := ks.map fun k => PyData.int ((k : Nat) : Int)
/-- what may stand in a kept dict -/
def Kept (c : Str) (fs : List (Str × Option D)) (s : Str) (d : D) : Prop := c = "Store" ∧ s = "flats" ∧ ∃ ds es : List Nat, fs.lookup ("own_deliveries" : Str) = some (some (.tuple (natD ds))) ∧ fs.lookup ("own_sales" : Str) = some (some (.tuple (natD es))) ∧ d = .list (natD (flatsOf ds es))
/-! ### states -/
structure Gh where
  G : Hp
  O : Addr → Prop
  B : Nat → Option Addr
  E : Hp
section
variable (X : Cx)
def FldR (G : Hp) (a : Addr) (p : Str × V) (q : Str × Option D) : Prop := p.1 = q.1 ∧ (∀ d, q.2 = some d → Rep X.K G p.2 d) ∧ (q.2 = none → ∃ k, p.2 = .ref k ∧ G k = some (tagO a))
/-- an exception's field -/
def XfR (G : Hp) (p : Str × V) (q : Str × D) : Prop := p.1 = q.1 ∧ Rep X.K G p.2 q.2
def KeyR (G : Hp) (p : Key × V) (q : Key × D) : Prop := p.1 = q.1 ∧ Rep X.K G p.2 q.2
def CellR (G H : Hp) (a : Addr) : Cell → Prop
  | .lst ds => ∃ vs, H a = some (.lst vs) ∧ RepAll X.K G vs ds
  | .dct kvs => ∃ ks, H a = some (.dK ks) ∧ Paired (KeyR X G) ks kvs
  | .ins c fs => ∃ C dx vfs, X.mg c = some (.ref C) ∧ H a = some (.ins C dx vfs) ∧ Paired (FldR X G a) vfs fs
  | .dtt ks => H a = some (.dT (ks.map fun k => (k.map Sum.inl, V.bl true)))
def ItR (G : Hp) (v : V) : Sum D (Str × List (Str × Option D)) → Prop
  | .inl d => Rep X.K G v d
  | .inr (c, fs) => ∃ a C dx vfs, v = .ref a ∧ X.mg c = some (.ref C) ∧ G a = some (.ins C dx vfs) ∧ Paired (FldR X G a) vfs fs
def RepP (G : Hp) (v : V) : W → Prop
  | .dat d => Rep X.K G v d
  | .obj c fs => ∃ a C dx vfs, v = .ref a ∧ X.mg c = some (.ref C) ∧ G a = some (.ins C dx vfs) ∧ Paired (FldR X G a) vfs fs
  | .scr (.sc ns) => ∃ a, v = .ref a ∧ SqL X.K G a (ns.map V.int)
  | .scr (.tp xs) => ∃ a vs, v = .ref a ∧ G a = some (.tup vs) ∧ Paired (ItR X G) vs xs
  | .scr (.rg j) => ∃ a, v = .ref a ∧ G a = some (.rng 0 j)
  | _ => False
def RepW (g : Gh) (σ : L2.St) (H : Hp) (v : V) : W → Prop
  | .dat d => RepP X g.G v (.dat d)
  | .obj c fs => RepP X g.G v (.obj c fs)
  | .scr ns => RepP X g.G v (.scr ns)
  | .fresh c => ∃ a, v = .ref a ∧ g.G a = none ∧ ¬ g.O a ∧ CellR X g.G H a c
  | .own i => σ[i]? = some (some v)
def SlotR (g : Gh) (H : Hp) (i : Nat) (v : V) : Slot → Prop
  | .val w => RepP X g.G v w
  | .own c => ∃ a, v = .ref a ∧ g.G a = none ∧ g.O a ∧ CellR X g.G H a c ∧ g.E a = none
  | .ref c => ∃ a, v = .ref a ∧ g.G a = none ∧ g.O a ∧ CellR X g.G H a c ∧ g.B i = some a
def Slot.owned : Slot → Option Cell
  | .val _ => none
  | .own c => some c
  | .ref c => some c
/-- what is frozen stands in the heap; a kept dict holds what its owner may keep -/
def Sb (G H : Hp) : Prop := Sm G H ∧
  ∀ k t, G k = some (.dT t) → ∃ a ks, t = [([], V.ref a)] ∧ H k = some (.dK ks) ∧ (ks = [] ∨
    ∃ C dx vfs c fs s v d, G a = some (.ins C dx vfs) ∧ X.mg c = some (.ref C) ∧ Paired (FldR X G a) vfs fs ∧ ks = [(.inr s, v)] ∧ Rep X.K G v d ∧ Kept c fs s d)
structure SR (g : Gh) (σ : L2.St) (H : Hp) (ρ : Env') : Prop where
  sub : Sb X g.G H
  len : σ.length = ρ.length
  slot : ∀ (i : Nat) (s : Slot), ρ[i]? = some (some s) → ∃ v, σ[i]? = some (some v) ∧ SlotR X g H i v s
  dis : ∀ (i j : Nat) (s t : Slot) (a : Addr), i ≠ j → ρ[i]? = some (some s) → ρ[j]? = some (some t) → s.owned ≠ none → t.owned ≠ none → σ[i]? = some (some (.ref a)) → σ[j]? ≠ some (some (.ref a))
  ot : ∀ a, g.O a → H a ≠ none
  ea : ∀ a, g.E a ≠ none → H a ≠ none
end
/-- from one state of the heap to a later one -/
structure Ext (g : Gh) (H : Hp) (g' : Gh) (H' : Hp) : Prop where
  up : Same g.G g'.G
  fr : ∀ b x, H b = some x → g.G b = none → ¬ g.O b → H' b = some x ∧ g'.G b = none ∧ ¬ g'.O b
  al : ∀ b, H b ≠ none → H' b ≠ none
  bb : g'.B = g.B
  be : g'.E = g.E
theorem Ext.refl (g : Gh) (H : Hp) : Ext g H g H := ⟨Same.refl _, fun _ _ h n o => ⟨h, n, o⟩, fun _ h => h, rfl, rfl⟩
theorem Ext.trans {g g1 g2 : Gh} {H H1 H2 : Hp} (a : Ext g H g1 H1) (b : Ext g1 H1 g2 H2) : Ext g H g2 H2 :=
  ⟨a.up.trans b.up, fun c x h n o => let ⟨h1, n1, o1⟩ := a.fr c x h n o; b.fr c x h1 n1 o1, fun c h => b.al c (a.al c h), b.bb.trans a.bb, b.be.trans a.be⟩
def W.isFresh : W → Bool
  | .fresh _ => true
  | _ => false
/-- what is new was not there -/
def FreshIn (H : Hp) (v : V) (w : W) : Prop := w.isFresh = true → ∀ a, v = .ref a → H a = none
section
variable {X : Cx} {g g' : Gh} {σ : L2.St} {H H' : Hp} {v : V} {w : W} {ρ : Env'}
theorem Paired.mono {α β : Type} {F F' : α → β → Prop} : ∀ {l : List α} {m : List β}, Paired F l m → (∀ a b, F a b → F' a b) → Paired F' l m
  | _, _, .nil, _ => .nil
  | _, _, .cons h t, f => .cons (f _ _ h) (Paired.mono t f)
theorem FldR.mono {G G' : Hp} {a : Addr} {p : Str × V} {q : Str × Option D} (e : Same G G') (h : FldR X G a p q) : FldR X G' a p q :=
  ⟨h.1, fun d hd => (h.2.1 d hd).mono e, fun hn => let ⟨k, e1, e2⟩ := h.2.2 hn; ⟨k, e1, e _ _ e2⟩⟩
/-! what is frozen, what is written -/
theorem smT {A B H : Hp} (s : Same A B) (h : Sm B H) : Sm A H := fun a x e n => h a x (s a x e) n
theorem Sb.at {G H : Hp} (S : Sb X G H) {a : Addr} {x : HO} (h : G a = some x) (n : noTag x = true := by rfl) : H a = some x := S.1 a x h n
theorem Sb.free {G H : Hp} (S : Sb X G H) {a : Addr} (h : H a = none) : G a = none := by
  cases e : G a with
  | none => rfl
  | some x =>
    by_cases n : noTag x = true
    · rw [S.1 a x e n] at h; cases h
    · cases x with
      | dT t =>
        obtain ⟨_, ks, _, hk, _⟩ := S.2 a t e
        rw [hk] at h
        cases h
      | _ => exact absurd rfl n
/-- the heap is written where nothing is frozen -/
theorem Sb.write {G H H' : Hp} (S : Sb X G H) (k : ∀ b, G b ≠ none → H' b = H b) : Sb X G H' := by
  refine ⟨fun a x h n => by rw [k a (by rw [h]; exact fun z => by cases z)]; exact S.1 a x h n, fun b t h => ?_⟩
  obtain ⟨a, ks, e, hk, r⟩ := S.2 b t h
  exact ⟨a, ks, e, by rw [k b (by rw [h]; exact fun z => by cases z)]; exact hk, r⟩
/-- something is frozen -/
theorem Sb.grow {G H H' : Hp} {p : Addr} {o : HO} (S : Sb X G H) (gp : G p = none) (no : noTag o = true) (hp : H' p = some o) (k : ∀ b, G b ≠ none → H' b = H b) : Sb X (upd G p o) H' := by
  have up : Same G (upd G p o) := fun b x h => by rw [upd_ne (ne_of_none h gp)]; exact h
  have S' := S.write k
  refine ⟨fun a x h n => ?_, fun b t h => ?_⟩
  · by_cases e : a = p
    · subst e
      rw [upd_same] at h
      cases h
      exact hp
    · rw [upd_ne e] at h
      exact S'.1 a x h n
  · by_cases e : b = p
    · subst e
      rw [upd_same] at h
      cases h
      cases no
    · rw [upd_ne e] at h
      obtain ⟨a, ks, e1, e2, e3⟩ := S'.2 b t h
      refine ⟨a, ks, e1, e2, e3.imp id ?_⟩
      rintro ⟨C, dx, vfs, c, fs, s, v, d, h1, h2, h3, h4, h5, h6⟩
      exact ⟨C, dx, vfs, c, fs, s, v, d, up _ _ h1, h2, Paired.mono h3 fun _ _ q => q.mono up, h4, h5.mono up, h6⟩
theorem CellR.mono {G G' : Hp} {a : Addr} {c : Cell} (e : Same G G') (h : CellR X G H a c) (hh : ∀ x, H a = some x → H' a = some x) : CellR X G' H' a c := by
  cases c with
  | lst ds => obtain ⟨vs, h1, h2⟩ := h; exact ⟨vs, hh _ h1, h2.mono e⟩
  | dct kvs => obtain ⟨ks, h1, h2⟩ := h; exact ⟨ks, hh _ h1, Paired.mono h2 fun _ _ q => ⟨q.1, q.2.mono e⟩⟩
  | ins c fs => obtain ⟨C, dx, vfs, h0, h1, h2⟩ := h; exact ⟨C, dx, vfs, h0, hh _ h1, Paired.mono h2 fun _ _ q => q.mono e⟩
  | dtt ks => exact hh _ h
theorem CellR.some {G : Hp} {a : Addr} {c : Cell} (h : CellR X G H a c) : ∃ x, H a = some x := by
  cases c with
  | lst ds => obtain ⟨vs, h1, h2⟩ := h; exact ⟨_, h1⟩
  | dct kvs => obtain ⟨ks, h1, h2⟩ := h; exact ⟨_, h1⟩
  | ins c fs => obtain ⟨C, dx, vfs, h0, h1, h2⟩ := h; exact ⟨_, h1⟩
  | dtt ks => exact ⟨_, h⟩
theorem RepP.mono {G G' : Hp} (e : Same G G') (h : RepP X G v w) : RepP X G' v w := by
  cases w with
  | dat d => exact Rep.mono e h
  | obj c fs => obtain ⟨a, C, dx, vfs, h0, h1, h2, h3⟩ := h; exact ⟨a, C, dx, vfs, h0, h1, e _ _ h2, Paired.mono h3 fun _ _ q => q.mono e⟩
  | scr ns =>
    cases ns with
    | sc ns => obtain ⟨a, h1, h2⟩ := h; exact ⟨a, h1, e.seq h2⟩
    | rg j => obtain ⟨a, h1, h2⟩ := h; exact ⟨a, h1, e _ _ h2⟩
    | tp xs =>
      obtain ⟨a, vs, h1, h2, h3⟩ := h
      refine ⟨a, vs, h1, e _ _ h2, Paired.mono h3 fun v x q => ?_⟩
      cases x with
      | inl d => exact Rep.mono e q
      | inr p => obtain ⟨a, C, dx, vfs, h0, h1, h2, h3⟩ := q; exact ⟨a, C, dx, vfs, h0, h1, e _ _ h2, Paired.mono h3 fun _ _ q => q.mono e⟩
  | fresh c => exact h
  | own i => exact h
/-- a value stays what it is -/
theorem RepW.ext (x : Ext g H g' H') (h : RepW X g σ H v w) : RepW X g' σ H' v w := by
  cases w with
  | dat d => exact RepP.mono (w := .dat d) x.up h
  | obj c fs => exact RepP.mono (w := .obj c fs) x.up h
  | scr ns => exact RepP.mono (w := .scr ns) x.up h
  | fresh c =>
    obtain ⟨a, e, n, o, q⟩ := h
    obtain ⟨y, hy⟩ := q.some
    obtain ⟨h1, h2, h3⟩ := x.fr a y hy n o
    exact ⟨a, e, h2, h3, q.mono x.up fun z hz => by rw [hy] at hz; cases hz; exact h1⟩
  | own i => exact h
theorem FreshIn.ext (x : Ext g H g' H') (h : FreshIn H' v w) : FreshIn H v w := fun f a e => by
  have := h f a e
  by_cases q : H a = none
  · exact q
  · exact absurd this (x.al a q)
theorem FreshIn.dat {d : D} : FreshIn H v (.dat d) := fun h => by cases h
theorem FreshIn.obj {c : Str} {fs : List (Str × Option D)} : FreshIn H v (.obj c fs) := fun h => by cases h
theorem FreshIn.scr {ns : Frz} : FreshIn H v (.scr ns) := fun h => by cases h
theorem FreshIn.own {i : Nat} : FreshIn H v (.own i) := fun h => by cases h
end
/-! ### what is wanted behind -/
/-- an exception's fields, as data -/
def xdD (kvs : List (Str × D)) : D := .dict (kvs.map fun p => (.str p.1, p.2))
section
variable (X : Cx) (Wx : WX)
/-- an exception of the class that the module calls c, with the field value -/
def ExR (g : Gh) (H : Hp) (cv : Value) (da : Option Addr) (c : Str) (d : Option D) : Prop :=
  ∃ C, cv = .ref C ∧ X.mg c = some (.ref C) ∧ match d with
    | none => True
    | some d => ∃ dx fs kvs, da = some dx ∧ d = xdD kvs ∧ g.G dx = some (.xd fs) ∧ Paired (XfR X g.G) fs kvs
def PostG {α β : Type} (rel : Hp → Gh → Hp → β → α → Prop) (g : Gh) (σ : L2.St) (H : Hp) (o : Option (R α)) (Q : β → Hp → Prop) : Prop :=
  match o with
  | none => False
  | some (.ok a ρ') => ∀ g' H' v, Ext g H g' H' → SR X g' σ H' ρ' → rel H g' H' v a → Q v H'
  | some (.ex c d ρ') => ∀ g' H' cv da, Ext g H g' H' → SR X g' σ H' ρ' → ExR X g' H' cv da c d → Wx cv da σ H'
def relE (σ : L2.St) : Hp → Gh → Hp → V → W → Prop := fun H g' H' v w => RepW X g' σ H' v w ∧ FreshIn H v w
def relB : Hp → Gh → Hp → Bool → Bool → Prop := fun _ _ _ b c => b = c
inductive RepWs (g : Gh) (σ : L2.St) (H₀ H : Hp) : List V → List W → Prop
  | nil : RepWs g σ H₀ H [] []
  | cons {v : V} {w : W} {vs : List V} {ws : List W} : RepW X g σ H v w → FreshIn H₀ v w → RepWs g σ H₀ H vs ws →
      (w.isFresh = true → ∀ (i : Nat) (u : V) (z : W), vs[i]? = some u → ws[i]? = some z → z.isFresh = true → v ≠ u) → RepWs g σ H₀ H (v :: vs) (w :: ws)
def relA (σ : L2.St) : Hp → Gh → Hp → List V → List W → Prop := fun H g' H' vs ws => RepWs X g' σ H H' vs ws
abbrev PostE (g : Gh) (σ : L2.St) (H : Hp) (o : Option (R W)) (Q : VK) : Prop := PostG X Wx (relE X σ) g σ H o Q
abbrev PostA (g : Gh) (σ : L2.St) (H : Hp) (o : Option (R (List W))) (Q : List V → Hp → Prop) : Prop := PostG X Wx (relA X σ) g σ H o Q
abbrev PostB (g : Gh) (σ : L2.St) (H : Hp) (o : Option (R Bool)) (Q : Bool → Hp → Prop) : Prop := PostG X Wx relB g σ H o Q
end
section
variable {X : Cx} {Wx : WX} {g g1 : Gh} {σ : L2.St} {H H1 : Hp}
/-- a relation that may begin later -/
def Later {α β : Type} (rel : Hp → Gh → Hp → β → α → Prop) : Prop := ∀ g H g1 H1 g' H' v a, Ext g H g1 H1 → rel H1 g' H' v a → rel H g' H' v a
theorem later_E : Later (relE X σ) := fun _ _ _ _ _ _ _ _ x h => ⟨h.1, h.2.ext x⟩
theorem later_B : Later (relB) := fun _ _ _ _ _ _ _ _ _ h => h
theorem later_A : Later (relA X σ) := fun g H g1 H1 g' H' vs ws x h => by
  unfold relA at h ⊢
  induction h with
  | nil => exact .nil
  | cons r f _ n ih => exact .cons r (f.ext x) ih n
theorem PostG.shift {α β : Type} {rel : Hp → Gh → Hp → β → α → Prop} (lt : Later rel) {o : Option (R α)} {Q : β → Hp → Prop} (x : Ext g H g1 H1) (h : PostG X Wx rel g σ H o Q) : PostG X Wx rel g1 σ H1 o Q := by
  cases o with
  | none => exact h
  | some r =>
    cases r with
    | ok a ρ' => exact fun g' H' v e s r => h g' H' v (x.trans e) s (lt _ _ _ _ _ _ _ _ x r)
    | ex c d ρ' => exact fun g' H' cv da e s r => h g' H' cv da (x.trans e) s r
theorem PostG.bind {α β γ δ : Type} {rel : Hp → Gh → Hp → β → α → Prop} {rel2 : Hp → Gh → Hp → δ → γ → Prop} (lt : Later rel2) {o : Option (R α)} {f : α → Env' → Option (R γ)} {Q : δ → Hp → Prop} {Q1 : β → Hp → Prop}
    (h : PostG X Wx rel2 g σ H (bnd o f) Q)
    (k : ∀ a ρ1 g1 H1 v, o = some (.ok a ρ1) → Ext g H g1 H1 → SR X g1 σ H1 ρ1 → rel H g1 H1 v a → PostG X Wx rel2 g1 σ H1 (f a ρ1) Q → Q1 v H1) : PostG X Wx rel g σ H o Q1 := by
  cases o with
  | none => exact h
  | some r =>
    cases r with
    | ok a ρ' => exact fun g' H' v e s r => k a ρ' g' H' v rfl e s r (PostG.shift lt e h)
    | ex c d ρ' => exact h
/-- the same from a later state, what is wanted told from the earlier one -/
theorem PostG.at {α β γ δ : Type} {rel : Hp → Gh → Hp → β → α → Prop} {rel2 : Hp → Gh → Hp → δ → γ → Prop} {o : Option (R α)} {f : α → Env' → Option (R γ)} {Q : δ → Hp → Prop} {Q1 : β → Hp → Prop}
    (e : Ext g H g1 H1) (h : PostG X Wx rel2 g σ H (bnd o f) Q)
    (k : ∀ a ρ2 g2 H2 v, o = some (.ok a ρ2) → Ext g1 H1 g2 H2 → SR X g2 σ H2 ρ2 → rel H1 g2 H2 v a → PostG X Wx rel2 g σ H (f a ρ2) Q → Q1 v H2) : PostG X Wx rel g1 σ H1 o Q1 := by
  cases o with
  | none => exact h
  | some r =>
    cases r with
    | ok a ρ' => exact fun g' H' v e s r => k a ρ' g' H' v rfl e s r h
    | ex c d ρ' => exact fun g' H' cv da e2 s r => h g' H' cv da (e.trans e2) s r
theorem RepWs.get {g : Gh} {σ : L2.St} {H₀ H : Hp} {vs : List V} {ws : List W} (h : RepWs X g σ H₀ H vs ws) : ∀ {i : Nat} {v : V} {w : W}, vs[i]? = some v → ws[i]? = some w → RepW X g σ H v w ∧ FreshIn H₀ v w := by
  induction h with
  | nil => intro i v w h; simp at h
  | cons r f _ _ ih =>
    intro i v w h1 h2
    cases i with
    | zero => simp at h1 h2; subst h1; subst h2; exact ⟨r, f⟩
    | succ i => exact ih (by simpa using h1) (by simpa using h2)
theorem PostG.mono {α β : Type} {rel : Hp → Gh → Hp → β → α → Prop} {o : Option (R α)} {Q Q' : β → Hp → Prop} (h : PostG X Wx rel g σ H o Q) (k : ∀ v H', Q v H' → Q' v H') : PostG X Wx rel g σ H o Q' := by
  cases o with
  | none => exact h
  | some r =>
    cases r with
    | ok a ρ' => exact fun g' H' v e s r => k _ _ (h g' H' v e s r)
    | ex c d ρ' => exact h
end
/-! ### judgements -/
section
variable (X : Cx) (Wx : WX)
def TrE (t : TE) (s : ES) : Prop := ∀ g σ H ρ Q, SR X g σ H ρ → PostE X Wx g σ H (s ρ) Q → t σ H Q
def TrA (t : TA) (s : AS) : Prop := ∀ g σ H ρ Q, SR X g σ H ρ → PostA X Wx g σ H (s ρ) Q → t σ H Q
def TrT (t : TT) (s : BS) : Prop := ∀ g σ H ρ Q, SR X g σ H ρ → PostB X Wx g σ H (s ρ) Q → t σ H Q
def OkE (e : Expr) (s : ES) : Prop := ∃ t, PE X e t ∧ TrE X Wx t s
def OkA (es : List Expr) (s : AS) : Prop := ∃ t, PA X es t ∧ TrA X Wx t s
def OkT (e : Expr) (s : BS) : Prop := ∃ t, PT X e t ∧ TrT X Wx t s
def OkW (e : Expr) (s : BS) : Prop := ∃ t, PW X e t ∧ TrT X Wx t s
end
/-! ### statements -/
inductive O where
  | nx (ρ : Env')
  | ret (w : W) (ρ : Env')
  | brk (ρ : Env')
  | ct (ρ : Env')
  | ex (c : Str) (d : Option D) (ρ : Env')
abbrev SS := Env' → Option O
section
variable (X : Cx) (Wx : WX)
def PostS (g : Gh) (H : Hp) (o : Option O) (E : Ends) : Prop :=
  match o with
  | none => False
  | some (.nx ρ') => ∀ g' σ' H', Ext g H g' H' → SR X g' σ' H' ρ' → E.nx σ' H'
  | some (.brk ρ') => ∀ g' σ' H', Ext g H g' H' → SR X g' σ' H' ρ' → E.bk σ' H'
  | some (.ct ρ') => ∀ g' σ' H', Ext g H g' H' → SR X g' σ' H' ρ' → E.ct σ' H'
  | some (.ret w ρ') => ∀ g' σ' H' v, Ext g H g' H' → SR X g' σ' H' ρ' → RepW X g' σ' H' v w → FreshIn g.E v w → E.rt v H'
  | some (.ex c d ρ') => ∀ g' σ' H' cv da, Ext g H g' H' → SR X g' σ' H' ρ' → ExR X g' H' cv da c d → Wx cv da σ' H'
def TrS (t : TS) (s : SS) : Prop := ∀ g σ H ρ E, SR X g σ H ρ → PostS X Wx g H (s ρ) E → t E σ H
def OkS (st : Stmt) (s : SS) : Prop := ∃ t, PS X st t ∧ TrS X Wx t s
def OkSs (st : List Stmt) (s : SS) : Prop := ∃ t, PSs X st t ∧ TrS X Wx t s
end
section
variable {X : Cx} {Wx : WX} {g g1 : Gh} {H H1 : Hp} {E : Ends}
theorem PostS.shift {o : Option O} (x : Ext g H g1 H1) (h : PostS X Wx g H o E) : PostS X Wx g1 H1 o E := by
  cases o with
  | none => exact h
  | some r =>
    cases r with
    | nx ρ' => exact fun g' σ' H' e s => h g' σ' H' (x.trans e) s
    | brk ρ' => exact fun g' σ' H' e s => h g' σ' H' (x.trans e) s
    | ct ρ' => exact fun g' σ' H' e s => h g' σ' H' (x.trans e) s
    | ret w ρ' => exact fun g' σ' H' v e s r f => h g' σ' H' v (x.trans e) s r (by rw [x.be] at f; exact f)
    | ex c d ρ' => exact fun g' σ' H' cv da e s r => h g' σ' H' cv da (x.trans e) s r
end
end Py

namespace Py
open PySem PySem.Spec PyProof.Rows L2
section
variable {X : Cx} {Wx : WX} {g : Gh} {σ : L2.St} {H : Hp} {ρ : Env'}
/-! ### small facts -/
theorem PostE.ok {w : W} {Q : VK} {v : V} (S : SR X g σ H ρ) (h : PostE X Wx g σ H (some (.ok w ρ)) Q) (r : RepW X g σ H v w) (f : FreshIn H v w) : Q v H :=
  h g H v (Ext.refl _ _) S ⟨r, f⟩
theorem PostE.dat {d : D} {Q : VK} {v : V} (S : SR X g σ H ρ) (h : PostE X Wx g σ H (some (.ok (.dat d) ρ)) Q) (r : Rep X.K g.G v d) : Q v H := PostE.ok S h r FreshIn.dat
/-- something new is laid at p and frozen -/
theorem SR.freeze {p : Addr} {o : HO} (S : SR X g σ H ρ) (hp : H p = none) (no : noTag o = true := by rfl) : Ext g H ⟨upd g.G p o, g.O, g.B, g.E⟩ (upd H p o) ∧ SR X ⟨upd g.G p o, g.O, g.B, g.E⟩ σ (upd H p o) ρ := by
  have gp : g.G p = none := S.sub.free hp
  have up : Same g.G (upd g.G p o) := fun b x h => by rw [upd_ne (ne_of_none h gp)]; exact h
  have uh : ∀ b x, H b = some x → upd H p o b = some x := fun b x h => by rw [upd_ne (ne_of_none h hp)]; exact h
  have al : ∀ b, H b ≠ none → upd H p o b ≠ none := fun b h => by
    cases q : H b with
    | none => exact absurd q h
    | some x => rw [uh b x q]; exact fun z => by cases z
  refine ⟨⟨up, fun b x h n o => ⟨uh b x h, by show upd g.G p _ b = none; rw [upd_ne (ne_of_none h hp)]; exact n, o⟩, al, rfl, rfl⟩, ⟨S.sub.grow gp no upd_same fun b hb => upd_ne fun e => hb (by rw [e]; exact gp), S.len, fun i s h => ?_, S.dis, fun a oa => al a (S.ot a oa), fun a ea => al a (S.ea a ea)⟩⟩
  · obtain ⟨v, h1, h2⟩ := S.slot i s h
    refine ⟨v, h1, ?_⟩
    have own : ∀ {a : Addr} {c : Cell}, g.G a = none → CellR X g.G H a c → upd g.G p o a = none ∧ CellR X (upd g.G p o) (upd H p o) a c := fun {a c} n q => by
      obtain ⟨y, hy⟩ := q.some
      exact ⟨by rw [upd_ne (ne_of_none hy hp)]; exact n, q.mono up fun x hx => uh a x hx⟩
    cases s with
    | val w => exact RepP.mono up h2
    | own c =>
      obtain ⟨a, e, n, q1, q2, q3⟩ := h2
      obtain ⟨n', q'⟩ := own n q2
      exact ⟨a, e, n', q1, q', q3⟩
    | ref c =>
      obtain ⟨a, e, n, q1, q2, q3⟩ := h2
      obtain ⟨n', q'⟩ := own n q2
      exact ⟨a, e, n', q1, q', q3⟩
/-- something new is laid at p, not frozen -/
theorem SR.lay {p : Addr} {o : HO} (S : SR X g σ H ρ) (hp : H p = none) : Ext g H g (upd H p o) ∧ SR X g σ (upd H p o) ρ := by
  have uh : ∀ b x, H b = some x → upd H p o b = some x := fun b x h => by rw [upd_ne (ne_of_none h hp)]; exact h
  have al : ∀ b, H b ≠ none → upd H p o b ≠ none := fun b h => by
    cases q : H b with
    | none => exact absurd q h
    | some x => rw [uh b x q]; exact fun z => by cases z
  refine ⟨⟨Same.refl _, fun b x h n o => ⟨uh b x h, n, o⟩, al, rfl, rfl⟩, ⟨S.sub.write fun b hb => upd_ne fun e => hb (by rw [e]; exact S.sub.free hp), S.len, fun i s h => ?_, S.dis, fun a oa => al a (S.ot a oa), fun a ea => al a (S.ea a ea)⟩⟩
  · obtain ⟨v, h1, h2⟩ := S.slot i s h
    refine ⟨v, h1, ?_⟩
    cases s with
    | val w => exact h2
    | own c =>
      obtain ⟨a, e, n, q1, q2, q3⟩ := h2
      exact ⟨a, e, n, q1, q2.mono (Same.refl _) (fun x hx => uh a x hx), q3⟩
    | ref c =>
      obtain ⟨a, e, n, q1, q2, q3⟩ := h2
      exact ⟨a, e, n, q1, q2.mono (Same.refl _) (fun x hx => uh a x hx), q3⟩
/-- what is laid already is frozen, in sight of an earlier state that has it not -/
theorem SR.freezeOld {g0 : Gh} {H0 : Hp} {p : Addr} {o : HO} (x : Ext g0 H0 g H) (S : SR X g σ H ρ) (hp : H p = some o) (h0 : H0 p = none) (gp : g.G p = none) (op : ¬ g.O p) (no : noTag o = true := by rfl) :
    Ext g0 H0 ⟨upd g.G p o, g.O, g.B, g.E⟩ H ∧ SR X ⟨upd g.G p o, g.O, g.B, g.E⟩ σ H ρ := by
  have up : Same g.G (upd g.G p o) := fun b y h => by rw [upd_ne (ne_of_none h gp)]; exact h
  refine ⟨⟨x.up.trans up, fun b y h n ob => ?_, x.al, x.bb, x.be⟩, ⟨S.sub.grow gp no hp fun _ _ => rfl, S.len, fun i s h => ?_, S.dis, S.ot, S.ea⟩⟩
  · obtain ⟨h1, h2, h3⟩ := x.fr b y h n ob
    refine ⟨h1, ?_, h3⟩
    show upd g.G p o b = none
    rw [upd_ne (ne_of_none h h0)]
    exact h2
  · obtain ⟨v, h1, h2⟩ := S.slot i s h
    refine ⟨v, h1, ?_⟩
    have own : ∀ {a : Addr} {c : Cell}, g.G a = none → g.O a → CellR X g.G H a c → upd g.G p o a = none ∧ CellR X (upd g.G p o) H a c := fun {a c} n oa q =>
      ⟨by rw [upd_ne (show a ≠ p from fun e => op (by rw [← e]; exact oa))]; exact n, q.mono up fun _ h => h⟩
    cases s with
    | val w => exact RepP.mono up h2
    | own c =>
      obtain ⟨a, e, n, q1, q2, q3⟩ := h2
      obtain ⟨n', q'⟩ := own n q1 q2
      exact ⟨a, e, n', q1, q', q3⟩
    | ref c =>
      obtain ⟨a, e, n, q1, q2, q3⟩ := h2
      obtain ⟨n', q'⟩ := own n q1 q2
      exact ⟨a, e, n', q1, q', q3⟩
end

/-! ### names, constants -/
section
variable {X : Cx} {Wx : WX}
def vS (i : Nat) : ES := fun ρ => match ρ[i]? with
  | some (some (.val w)) => some (.ok w ρ)
  | some (some (.own _)) => some (.ok (.own i) ρ)
  | some (some (.ref _)) => some (.ok (.own i) ρ)
  | _ => none
theorem RepW.ofP {g : Gh} {σ : L2.St} {H : Hp} {v : V} {w : W} (h : RepP X g.G v w) : RepW X g σ H v w ∧ w.isFresh = false := by
  cases w with
  | dat d => exact ⟨h, rfl⟩
  | obj c fs => exact ⟨h, rfl⟩
  | scr ns => exact ⟨h, rfl⟩
  | fresh c => exact h.elim
  | own i => exact h.elim
theorem tr_v (i : Nat) : TrE X Wx (tVar i) (vS i) := by
  intro g σ H ρ Q S h
  unfold vS at h
  cases e : ρ[i]? with
  | none => rw [e] at h; exact h.elim
  | some s =>
    cases s with
    | none => rw [e] at h; exact h.elim
    | some s =>
      rw [e] at h
      obtain ⟨v, h1, h2⟩ := S.slot i s e
      refine ⟨v, h1, ?_⟩
      cases s with
      | val w =>
        obtain ⟨r, f⟩ := RepW.ofP (σ := σ) (H := H) h2
        exact PostE.ok S h r fun z => by rw [f] at z; cases z
      | own c => exact PostE.ok S h (w := .own i) h1 FreshIn.own
      | ref c => exact PostE.ok S h (w := .own i) h1 FreshIn.own
theorem okV (i : Nat) {x : Str} {pos : Pos} (hN : X.N[i]? = some x) (hv : Vis X.env.scope x) (hd : (x == ("__debug__" : Str)) = false := by decide)
    (hcd : (x == ("__classdict__" : Str)) = false := by decide) : OkE X Wx (.Name x pos) (vS i) := ⟨_, pe_var hN hv hd hcd, tr_v i⟩
def cS (d : D) : ES := fun ρ => some (.ok (.dat d) ρ)
theorem tr_c {v : V} {d : D} (h : ∀ K G, Rep K G v d) : TrE X Wx (tC v) (cS d) := fun g σ H ρ Q S p => PostE.dat S p (h _ _)
theorem okInt {i : Int} {j : Nat} {pos : Pos} : OkE X Wx (.Constant (.int i) j pos) (cS (.int i)) := ⟨_, pe_int, tr_c fun _ _ => .int i⟩
theorem okBool {b : Bool} {j : Nat} {pos : Pos} : OkE X Wx (.Constant (.bool b) j pos) (cS (.bool b)) := ⟨_, pe_bl, tr_c fun _ _ => .bl b⟩
theorem okNone {j : Nat} {pos : Pos} : OkE X Wx (.Constant .none j pos) (cS .none) := ⟨_, pe_non, tr_c fun _ _ => .non⟩
theorem okStr {x : Str} {j : Nat} {pos : Pos} : OkE X Wx (.Constant (.str x) j pos) (cS (.str x)) := ⟨_, pe_str, tr_c fun _ _ => .str x⟩
/-- a constant of the module -/
theorem okGlobInt {x : Str} {n : Int} {t : Tok} {pos : Pos} (hg : Gl X x) (hm : X.mg x = some (.int n t)) (hd : (x == ("__debug__" : Str)) = false := by decide) : OkE X Wx (.Name x pos) (cS (.int n)) :=
  ⟨_, pe_glob (v := .int n) hg hm ⟨t, rfl⟩ hd, tr_c fun _ _ => .int n⟩

/-! ### what is new becomes frozen -/
def hardW : W → Option W
  | .dat d => some (.dat d)
  | .obj c fs => some (.obj c fs)
  | .scr ns => some (.scr ns)
  | .fresh (.lst ds) => some (.dat (.list ds))
  | .fresh (.dct []) => some (.dat (.dict []))
  | .fresh (.ins c fs) => some (.obj c fs)
  | _ => none
def hrd (s : ES) : ES := fun ρ => bnd (s ρ) fun w ρ => match hardW w with
  | some w' => some (.ok w' ρ)
  | none => none
theorem tr_hrd {t : TE} {s : ES} (h : TrE X Wx t s) : TrE X Wx t (hrd s) := by
  intro g σ H ρ Q S p
  refine h g σ H ρ Q S ?_
  unfold hrd at p
  cases es : s ρ with
  | none => rw [es] at p; exact p.elim
  | some r =>
    rw [es] at p
    cases r with
    | ex c d ρ' => exact p
    | ok w ρ' =>
      intro g' H' v x S' ⟨r, f⟩
      cases w with
      | dat d => exact p g' H' v x S' ⟨r, f⟩
      | obj c fs => exact p g' H' v x S' ⟨r, f⟩
      | scr ns => exact p g' H' v x S' ⟨r, f⟩
      | own i => exact p.elim
      | fresh c =>
        obtain ⟨a, e, n, o, q⟩ := r
        have ha := f rfl a e
        cases c with
        | lst ds =>
          obtain ⟨vs, h1, h2⟩ := q
          obtain ⟨x2, S2⟩ := SR.freezeOld x S' h1 ha n o
          have up : Same g'.G (upd g'.G a (.lst vs)) := fun b y h => by rw [upd_ne (ne_of_none h n)]; exact h
          refine p _ H' v x2 S2 ⟨?_, FreshIn.dat⟩
          subst e
          exact Rep.lst upd_same (h2.mono up)
        | dct kvs =>
          cases kvs with
          | cons _ _ => exact p.elim
          | nil =>
            obtain ⟨ks, h1, h2⟩ := q
            cases h2
            obtain ⟨x2, S2⟩ := SR.freezeOld x S' h1 ha n o
            refine p _ H' v x2 S2 ⟨?_, FreshIn.dat⟩
            subst e
            exact Rep.dic upd_same rfl .nil
        | ins c fs =>
          obtain ⟨C, dx, vfs, h0, h1, h2⟩ := q
          obtain ⟨x2, S2⟩ := SR.freezeOld x S' h1 ha n o
          have up : Same g'.G (upd g'.G a (.ins C dx vfs)) := fun b y h => by rw [upd_ne (ne_of_none h n)]; exact h
          exact p _ H' v x2 S2 ⟨⟨a, C, dx, vfs, e, h0, upd_same, Paired.mono h2 fun _ _ q => q.mono up⟩, FreshIn.obj⟩
        | dtt ks => exact p.elim
theorem OkE.hrd {e : Expr} {s : ES} (h : OkE X Wx e s) : OkE X Wx e (hrd s) := let ⟨t, p, q⟩ := h; ⟨t, p, tr_hrd q⟩

/-! ### operators -/
def opS (gop : W → W → Env' → Option (R W)) (sa sb : ES) : ES := fun ρ => bnd (sa ρ) fun x ρ1 => bnd (sb ρ1) fun y ρ2 => gop x y ρ2
def Sem2 (X : Cx) (Wx : WX) (r : R2) (gop : W → W → Env' → Option (R W)) : Prop := ∀ g σ H ρ x y w z Q, SR X g σ H ρ → RepW X g σ H x w → RepW X g σ H y z → PostE X Wx g σ H (gop w z ρ) Q → r x y H Q
theorem tr_op {ta tb : TE} {sa sb : ES} {r : R2} {gop : W → W → Env' → Option (R W)} (ha : TrE X Wx ta sa) (hb : TrE X Wx tb sb) (hr : Sem2 X Wx r gop) : TrE X Wx (tOp r ta tb) (opS gop sa sb) := by
  intro g σ H ρ Q S h
  refine ha g σ H ρ _ S (PostG.bind later_E h ?_)
  intro w ρ1 g1 H1 x _ e1 S1 r1 h1
  refine hb g1 σ H1 ρ1 _ S1 (PostG.bind later_E h1 ?_)
  intro z ρ2 g2 H2 y _ e2 S2 r2 h2
  exact hr g2 σ H2 ρ2 x y w z Q S2 (r1.1.ext e2) r2.1 h2
theorem okOp {op : Operator} {r : R2} {gop : W → W → Env' → Option (R W)} {a b : Expr} {sa sb : ES} {pos : Pos} (ho : OpR X (binaryOp op) r) (hr : Sem2 X Wx r gop) (ha : OkE X Wx a sa) (hb : OkE X Wx b sb) :
    OkE X Wx (.BinOp a op b pos) (opS gop sa sb) := let ⟨_, p, q⟩ := ha; let ⟨_, p', q'⟩ := hb; ⟨_, pe_op ho p p', tr_op q q' hr⟩
theorem okCmp {op : CmpOp} {r : R2} {gop : W → W → Env' → Option (R W)} {a b : Expr} {sa sb : ES} {pos : Pos} (ho : OpR X (compareOp op) r) (hr : Sem2 X Wx r gop) (ha : OkE X Wx a sa) (hb : OkE X Wx b sb) (hm : behindInMarks op b = false) :
    OkE X Wx (.Compare a [op] [b] pos) (opS gop sa sb) := let ⟨_, p, q⟩ := ha; let ⟨_, p', q'⟩ := hb; ⟨_, pe_cmpR ho p p' hm, tr_op q q' hr⟩
def unS (gop : W → Env' → Option (R W)) (sa : ES) : ES := fun ρ => bnd (sa ρ) gop
def Sem1 (X : Cx) (Wx : WX) (r : V → Hp → VK → Prop) (gop : W → Env' → Option (R W)) : Prop := ∀ g σ H ρ x w Q, SR X g σ H ρ → RepW X g σ H x w → PostE X Wx g σ H (gop w ρ) Q → r x H Q
theorem tr_un {ta : TE} {sa : ES} {r : V → Hp → VK → Prop} {gop : W → Env' → Option (R W)} (ha : TrE X Wx ta sa) (hr : Sem1 X Wx r gop) : TrE X Wx (tUn r ta) (unS gop sa) := by
  intro g σ H ρ Q S h
  refine ha g σ H ρ _ S (PostG.bind later_E h ?_)
  intro w ρ1 g1 H1 x _ e1 S1 r1 h1
  exact hr g1 σ H1 ρ1 x w Q S1 r1.1 h1
theorem okUn {op : UnaryOp} {r : V → Hp → VK → Prop} {gop : W → Env' → Option (R W)} {a : Expr} {sa : ES} {pos : Pos} (ho : UnR X (unaryOp op) r) (hr : Sem1 X Wx r gop) (ha : OkE X Wx a sa) : OkE X Wx (.UnaryOp op a pos) (unS gop sa) :=
  let ⟨_, p, q⟩ := ha; ⟨_, pe_un ho p, tr_un q hr⟩
/-! ### tests -/
def tstW : W → Env' → Option (R Bool)
  | .dat (.bool b), ρ => some (.ok b ρ)
  | _, _ => none
def tst (s : ES) : BS := fun ρ => bnd (s ρ) tstW
theorem tr_tTest {t : TE} {s : ES} (h : TrE X Wx t s) : TrT X Wx (tTest t) (tst s) := by
  intro g σ H ρ Q S p
  refine h g σ H ρ _ S (PostG.bind later_B p ?_)
  intro w ρ1 g1 H1 x _ e1 S1 r1 h1
  cases w with
  | dat d =>
    cases d with
    | bool b =>
      obtain ⟨r, _⟩ := r1
      cases r
      exact ⟨b, rfl, h1 g1 H1 b (Ext.refl _ _) S1 rfl⟩
    | _ => exact h1.elim
  | _ => exact h1.elim
theorem okT_cmp {op : CmpOp} {r : R2} {gop : W → W → Env' → Option (R W)} {a b : Expr} {sa sb : ES} {pos : Pos} (ho : OpR X (compareOp op) r) (hr : Sem2 X Wx r gop) (ha : OkE X Wx a sa) (hb : OkE X Wx b sb) (hm : behindInMarks op b = false) :
    OkT X Wx (.Compare a [op] [b] pos) (tst (opS gop sa sb)) := let ⟨_, p, q⟩ := ha; let ⟨_, p', q'⟩ := hb; ⟨_, pt_cmpR ho p p' hm, tr_tTest (tr_op q q' hr)⟩
theorem okT_val {e : Expr} {s : ES} (h : OkE X Wx e s) (he : ∀ whole, isTrue e X.env whole = (do let v ← whole; standAt e.pos; holding [v] (truthy v))) : OkT X Wx e (tst s) := let ⟨_, p, q⟩ := h; ⟨_, pt_val p he, tr_tTest q⟩
/-- a op b op' c -/
def chS (gop gop' : W → W → Env' → Option (R W)) (sa sb sc : ES) : ES := fun ρ => bnd (sa ρ) fun x ρ => bnd (sb ρ) fun y ρ => bnd (gop x y ρ) fun w ρ => match w with
  | .dat (.bool true) => bnd (sc ρ) fun z ρ => gop' y z ρ
  | .dat (.bool false) => some (.ok (.dat (.bool false)) ρ)
  | _ => none
theorem tr_chain {ta tb tc : TE} {sa sb sc : ES} {r r' : R2} {gop gop' : W → W → Env' → Option (R W)} (ha : TrE X Wx ta sa) (hb : TrE X Wx tb sb) (hc : TrE X Wx tc sc) (hr : Sem2 X Wx r gop) (hr' : Sem2 X Wx r' gop') :
    TrE X Wx (tChain r r' ta tb tc) (chS gop gop' sa sb sc) := by
  intro g σ H ρ Q S h
  refine ha g σ H ρ _ S (PostG.bind later_E h ?_)
  intro w ρ1 g1 H1 x _ e1 S1 r1 h1
  refine hb g1 σ H1 ρ1 _ S1 (PostG.bind later_E h1 ?_)
  intro z ρ2 g2 H2 y _ e2 S2 r2 h2
  refine hr g2 σ H2 ρ2 x y w z _ S2 (r1.1.ext e2) r2.1 (PostG.bind later_E h2 ?_)
  intro b ρ3 g3 H3 u _ e3 S3 r3 h3
  cases b with
  | dat d =>
    cases d with
    | bool b =>
      obtain ⟨r, _⟩ := r3
      cases r
      refine ⟨b, rfl, ?_⟩
      cases b with
      | true =>
        rw [if_pos rfl]
        refine hc g3 σ H3 ρ3 _ S3 (PostG.bind later_E h3 ?_)
        intro q ρ4 g4 H4 v _ e4 S4 r4 h4
        exact hr' g4 σ H4 ρ4 y v z q Q S4 ((r2.1.ext e3).ext e4) r4.1 h4
      | false =>
        rw [if_neg Bool.false_ne_true]
        exact PostE.dat S3 h3 (.bl false)
    | _ => exact h3.elim
  | _ => exact h3.elim
theorem okChain {op op' : CmpOp} {r r' : R2} {gop gop' : W → W → Env' → Option (R W)} {a b c : Expr} {sa sb sc : ES} {pos : Pos} (ho : OpR X (compareOp op) r) (hr : Sem2 X Wx r gop) (ho' : OpR X (compareOp op') r') (hr' : Sem2 X Wx r' gop')
    (ha : OkE X Wx a sa) (hb : OkE X Wx b sb) (hc : OkE X Wx c sc) (hm : lastMarks [op, op'] [b, c] = false := by with_unfolding_all rfl) : OkE X Wx (.Compare a [op, op'] [b, c] pos) (chS gop gop' sa sb sc) :=
  let ⟨_, p, q⟩ := ha; let ⟨_, p', q'⟩ := hb; let ⟨_, p'', q''⟩ := hc; ⟨_, pe_chain ho ho' p p' p'' hm, tr_chain q q' q'' hr hr'⟩
theorem okT_chain {op op' : CmpOp} {r r' : R2} {gop gop' : W → W → Env' → Option (R W)} {a b c : Expr} {sa sb sc : ES} {pos : Pos} (ho : OpR X (compareOp op) r) (hr : Sem2 X Wx r gop) (ho' : OpR X (compareOp op') r') (hr' : Sem2 X Wx r' gop')
    (ha : OkE X Wx a sa) (hb : OkE X Wx b sb) (hc : OkE X Wx c sc) (hm : lastMarks [op, op'] [b, c] = false := by with_unfolding_all rfl) : OkT X Wx (.Compare a [op, op'] [b, c] pos) (tst (chS gop gop' sa sb sc)) :=
  let ⟨_, p, q⟩ := ha; let ⟨_, p', q'⟩ := hb; let ⟨_, p'', q''⟩ := hc; ⟨_, pt_chain ho ho' p p' p'' hm, tr_tTest (tr_chain q q' q'' hr hr')⟩
/-! and, or, not -/
def andT (s u : BS) : BS := fun ρ => bnd (s ρ) fun b ρ => if b then u ρ else some (.ok false ρ)
def orT (s u : BS) : BS := fun ρ => bnd (s ρ) fun b ρ => if b then some (.ok true ρ) else u ρ
def notT (s : BS) : BS := fun ρ => bnd (s ρ) fun b ρ => some (.ok (!b) ρ)
theorem PostB.ok {g : Gh} {σ : L2.St} {H : Hp} {ρ : Env'} {b : Bool} {Q : Bool → Hp → Prop} (S : SR X g σ H ρ) (h : PostB X Wx g σ H (some (.ok b ρ)) Q) : Q b H := h g H b (Ext.refl _ _) S rfl
theorem okW_and1 {a : Expr} {s : BS} {pos : Pos} (h : OkT X Wx a s) : OkW X Wx (.BoolOp .And [a] pos) s := let ⟨_, p, q⟩ := h; ⟨_, pw_and1 p, q⟩
theorem okW_or1 {a : Expr} {s : BS} {pos : Pos} (h : OkT X Wx a s) : OkW X Wx (.BoolOp .Or [a] pos) s := let ⟨_, p, q⟩ := h; ⟨_, pw_or1 p, q⟩
theorem okW_and {a b : Expr} {r : List Expr} {s u : BS} {pos : Pos} (h : OkT X Wx a s) (h2 : OkW X Wx (.BoolOp .And (b :: r) pos) u) : OkW X Wx (.BoolOp .And (a :: b :: r) pos) (andT s u) := by
  obtain ⟨t, p, q⟩ := h
  obtain ⟨t', p', q'⟩ := h2
  refine ⟨_, pw_and p p', fun g σ H ρ Q S h => q g σ H ρ _ S (PostG.bind later_B h ?_)⟩
  intro b ρ1 g1 H1 x _ e1 S1 r1 h1
  cases r1
  cases b with
  | true => rw [if_pos rfl]; exact q' g1 σ H1 ρ1 Q S1 h1
  | false => rw [if_neg Bool.false_ne_true]; exact PostB.ok S1 h1
theorem okW_or {a b : Expr} {r : List Expr} {s u : BS} {pos : Pos} (h : OkT X Wx a s) (h2 : OkW X Wx (.BoolOp .Or (b :: r) pos) u) : OkW X Wx (.BoolOp .Or (a :: b :: r) pos) (orT s u) := by
  obtain ⟨t, p, q⟩ := h
  obtain ⟨t', p', q'⟩ := h2
  refine ⟨_, pw_or p p', fun g σ H ρ Q S h => q g σ H ρ _ S (PostG.bind later_B h ?_)⟩
  intro b ρ1 g1 H1 x _ e1 S1 r1 h1
  cases r1
  cases b with
  | true => rw [if_pos rfl]; exact PostB.ok S1 h1
  | false => rw [if_neg Bool.false_ne_true]; exact q' g1 σ H1 ρ1 Q S1 h1
theorem OkW.t {e : Expr} {s : BS} (h : OkW X Wx e s) : OkT X Wx e s := let ⟨_, p, q⟩ := h; ⟨_, p.pt, q⟩
theorem okT_not {a : Expr} {s : BS} {pos : Pos} (h : OkT X Wx a s) : OkT X Wx (.UnaryOp .Not a pos) (notT s) := by
  obtain ⟨t, p, q⟩ := h
  refine ⟨_, pt_not p, fun g σ H ρ Q S h => q g σ H ρ _ S (PostG.bind later_B h ?_)⟩
  intro b ρ1 g1 H1 x _ e1 S1 r1 h1
  cases r1
  exact PostB.ok S1 h1
/-! as values -/
def andV (sa sb : ES) : ES := fun ρ => bnd (sa ρ) fun w ρ => match w with
  | .dat (.bool true) => sb ρ
  | .dat (.bool false) => some (.ok (.dat (.bool false)) ρ)
  | _ => none
def orV (sa sb : ES) : ES := fun ρ => bnd (sa ρ) fun w ρ => match w with
  | .dat (.bool true) => some (.ok (.dat (.bool true)) ρ)
  | .dat (.bool false) => sb ρ
  | _ => none
def notV (sa : ES) : ES := fun ρ => bnd (sa ρ) fun w ρ => match w with
  | .dat (.bool b) => some (.ok (.dat (.bool (!b))) ρ)
  | _ => none
theorem okOne {op : BoolOp} {a : Expr} {s : ES} {pos : Pos} (h : OkE X Wx a s) : OkE X Wx (.BoolOp op [a] pos) s := let ⟨_, p, q⟩ := h; ⟨_, pe_one p, q⟩
theorem okAnd {a b : Expr} {r : List Expr} {sa sb : ES} {pos : Pos} (ha : OkE X Wx a sa) (hb : OkE X Wx (.BoolOp .And (b :: r) pos) sb) : OkE X Wx (.BoolOp .And (a :: b :: r) pos) (andV sa sb) := by
  obtain ⟨t, p, q⟩ := ha
  obtain ⟨t', p', q'⟩ := hb
  refine ⟨_, pe_and p p', fun g σ H ρ Q S h => q g σ H ρ _ S (PostG.bind later_E h ?_)⟩
  intro w ρ1 g1 H1 x _ e1 S1 r1 h1
  cases w with
  | dat d =>
    cases d with
    | bool b =>
      obtain ⟨r, _⟩ := r1
      cases r
      refine ⟨b, rfl, ?_⟩
      cases b with
      | true => rw [if_pos rfl]; exact q' g1 σ H1 ρ1 Q S1 h1
      | false => rw [if_neg Bool.false_ne_true]; exact PostE.dat S1 h1 (.bl false)
    | _ => exact h1.elim
  | _ => exact h1.elim
theorem okOr {a b : Expr} {r : List Expr} {sa sb : ES} {pos : Pos} (ha : OkE X Wx a sa) (hb : OkE X Wx (.BoolOp .Or (b :: r) pos) sb) : OkE X Wx (.BoolOp .Or (a :: b :: r) pos) (orV sa sb) := by
  obtain ⟨t, p, q⟩ := ha
  obtain ⟨t', p', q'⟩ := hb
  refine ⟨_, pe_or p p', fun g σ H ρ Q S h => q g σ H ρ _ S (PostG.bind later_E h ?_)⟩
  intro w ρ1 g1 H1 x _ e1 S1 r1 h1
  cases w with
  | dat d =>
    cases d with
    | bool b =>
      obtain ⟨r, _⟩ := r1
      cases r
      refine ⟨b, rfl, ?_⟩
      cases b with
      | true => rw [if_pos rfl]; exact PostE.dat S1 h1 (.bl true)
      | false => rw [if_neg Bool.false_ne_true]; exact q' g1 σ H1 ρ1 Q S1 h1
    | _ => exact h1.elim
  | _ => exact h1.elim
theorem okNot {a : Expr} {sa : ES} {pos : Pos} (ha : OkE X Wx a sa) : OkE X Wx (.UnaryOp .Not a pos) (notV sa) := by
  obtain ⟨t, p, q⟩ := ha
  refine ⟨_, pe_not p, fun g σ H ρ Q S h => q g σ H ρ _ S (PostG.bind later_E h ?_)⟩
  intro w ρ1 g1 H1 x _ e1 S1 r1 h1
  cases w with
  | dat d =>
    cases d with
    | bool b =>
      obtain ⟨r, _⟩ := r1
      cases r
      exact ⟨b, rfl, PostE.dat S1 h1 (.bl _)⟩
    | _ => exact h1.elim
  | _ => exact h1.elim
def ifE (t : BS) (sa sb : ES) : ES := fun ρ => bnd (t ρ) fun b ρ => if b then sa ρ else sb ρ
theorem okIf {c a b : Expr} {t : BS} {sa sb : ES} {pos : Pos} (hc : OkT X Wx c t) (ha : OkE X Wx a sa) (hb : OkE X Wx b sb) : OkE X Wx (.IfExp c a b pos) (ifE t sa sb) := by
  obtain ⟨t0, p0, q0⟩ := hc
  obtain ⟨t, p, q⟩ := ha
  obtain ⟨t', p', q'⟩ := hb
  refine ⟨_, pe_ifExp p0 p p', fun g σ H ρ Q S h => q0 g σ H ρ _ S (PostG.bind later_E h ?_)⟩
  intro b ρ1 g1 H1 x _ e1 S1 r1 h1
  cases r1
  cases b with
  | true => rw [if_pos rfl]; exact q g1 σ H1 ρ1 Q S1 h1
  | false => rw [if_neg Bool.false_ne_true]; exact q' g1 σ H1 ρ1 Q S1 h1

/-! ### arguments, displays, calls by values -/
def nilS : AS := fun ρ => some (.ok [] ρ)
def consS (s : ES) (r : AS) : AS := fun ρ => bnd (s ρ) fun w ρ => bnd (r ρ) fun ws ρ => some (.ok (w :: ws) ρ)
theorem okA_nil : OkA X Wx [] nilS := ⟨_, pa_nil, fun g σ H ρ Q S h => h g H [] (Ext.refl _ _) S .nil⟩
theorem okA_cons {e : Expr} {es : List Expr} {s : ES} {r : AS} (he : OkE X Wx e s) (hr : OkA X Wx es r) (hs : starEach (e :: es) X.env = (false, eval e X.env) :: starEach es X.env := by rfl) : OkA X Wx (e :: es) (consS s r) := by
  obtain ⟨t, p, q⟩ := he
  obtain ⟨t', p', q'⟩ := hr
  refine ⟨_, pa_cons p p' hs, fun g σ H ρ Q S h => q g σ H ρ _ S (PostG.at (Ext.refl _ _) h ?_)⟩
  intro w ρ1 g1 H1 x _ e1 S1 r1 h1
  refine q' g1 σ H1 ρ1 _ S1 (PostG.at e1 h1 ?_)
  intro ws ρ2 g2 H2 xs _ e2 S2 r2 h2
  refine h2 g2 H2 (x :: xs) (e1.trans e2) S2 (.cons (r1.1.ext e2) r1.2 (later_A _ _ _ _ _ _ _ _ e1 r2) fun hf i u z hu hz hzf e => ?_)
  cases w with
  | fresh c =>
    obtain ⟨a, ex, n, o, q⟩ := r1.1
    obtain ⟨y, hy⟩ := q.some
    have hn := (RepWs.get r2 hu hz).2 hzf a (by rw [← e, ex])
    rw [hn] at hy
    cases hy
  | _ => cases hf
end
end Py

namespace Py
open PySem PySem.Spec PyProof.Rows L2

/-! ### what is new -/
section
variable {X : Cx} {Wx : WX} {g : Gh} {σ : L2.St} {H : Hp} {ρ : Env'}
/-- the end of a rule that lays a new list -/
theorem PostE.newList {ds : List D} {vs : List V} {Q : VK} (S : SR X g σ H ρ) (h : PostE X Wx g σ H (some (.ok (.fresh (.lst ds)) ρ)) Q) (r : RepAll X.K g.G vs ds)
    {p : Addr} (hp : H p = none) : Q (.ref p) (upd H p (.lst vs)) := by
  obtain ⟨x, S2⟩ := S.lay (o := .lst vs) hp
  exact h g _ (.ref p) x S2 ⟨⟨p, rfl, S.sub.free hp, fun z => S.ot p z hp, vs, upd_same, r⟩, fun _ a e => by cases e; exact hp⟩
theorem PostE.newTup {ds : List D} {vs : List V} {Q : VK} (S : SR X g σ H ρ) (h : PostE X Wx g σ H (some (.ok (.dat (.tuple ds)) ρ)) Q) (r : RepAll X.K g.G vs ds)
    {p : Addr} (hp : H p = none) : Q (.ref p) (upd H p (.tup vs)) := by
  obtain ⟨x, S2⟩ := S.freeze (o := .tup vs) hp
  exact h _ _ (.ref p) x S2 ⟨Rep.tup upd_same (r.mono x.up), FreshIn.dat⟩
end
/-! ### the cells of slots -/
def cellAt (ρ : Env') (i : Nat) : Option Cell := match ρ[i]? with
  | some (some (.own c)) => some c
  | some (some (.ref c)) => some c
  | _ => none
def setCell (ρ : Env') (i : Nat) (c : Cell) : Env' := match ρ[i]? with
  | some (some (.ref _)) => ρ.set i (some (.ref c))
  | _ => ρ.set i (some (.own c))
section
variable {X : Cx} {Wx : WX} {g : Gh} {σ : L2.St} {H : Hp} {ρ : Env'}
theorem SR.cell (S : SR X g σ H ρ) {i : Nat} {c : Cell} (h : cellAt ρ i = some c) : ∃ a, σ[i]? = some (some (.ref a)) ∧ g.G a = none ∧ g.O a ∧ CellR X g.G H a c := by
  unfold cellAt at h
  cases e : ρ[i]? with
  | none => rw [e] at h; cases h
  | some s =>
    cases s with
    | none => rw [e] at h; cases h
    | some s =>
      rw [e] at h
      obtain ⟨v, h1, h2⟩ := S.slot i s e
      cases s with
      | val w => cases h
      | own c' =>
        cases h
        obtain ⟨a, rfl, n, o, q, _⟩ := h2
        exact ⟨a, h1, n, o, q⟩
      | ref c' =>
        cases h
        obtain ⟨a, rfl, n, o, q, _⟩ := h2
        exact ⟨a, h1, n, o, q⟩
/-- what a slot owns is changed -/
theorem SR.mut (S : SR X g σ H ρ) {i : Nat} {c c' : Cell} {a : Addr} {o : HO} (h : cellAt ρ i = some c) (ha : σ[i]? = some (some (.ref a))) (hc : CellR X g.G (upd H a o) a c') :
    Ext g H g (upd H a o) ∧ SR X g σ (upd H a o) (setCell ρ i c') := by
  obtain ⟨a', ha', n, oa, q⟩ := S.cell h
  rw [ha] at ha'
  cases ha'
  have al : ∀ b, H b ≠ none → upd H a o b ≠ none := fun b hb => by
    by_cases e : b = a
    · subst e; rw [upd_same]; exact fun z => by cases z
    · rw [upd_ne e]; exact hb
  have hi : i < ρ.length := by
    unfold cellAt at h
    by_cases hi : i < ρ.length
    · exact hi
    · rw [List.getElem?_eq_none (by omega)] at h; cases h
  have get : ∀ (j : Nat) (s : Slot), (setCell ρ i c')[j]? = some (some s) → (j = i ∧ s.owned = some c' ∧ ((s = .own c' ∧ ∃ c, ρ[i]? = some (some (.own c))) ∨ (s = .ref c' ∧ ∃ c, ρ[i]? = some (some (.ref c))))) ∨ (j ≠ i ∧ ρ[j]? = some (some s)) := by
    intro j s hs
    unfold setCell at hs
    unfold cellAt at h
    by_cases e : j = i
    · subst e
      refine .inl ⟨rfl, ?_⟩
      cases e2 : ρ[j]? with
      | none => rw [e2] at h; cases h
      | some t =>
        rw [e2] at h hs
        cases t with
        | none => cases h
        | some t =>
          cases t with
          | val w => cases h
          | own c0 =>
            rw [List.getElem?_set_self hi] at hs
            cases hs
            exact ⟨rfl, .inl ⟨rfl, _, rfl⟩⟩
          | ref c0 =>
            rw [List.getElem?_set_self hi] at hs
            cases hs
            exact ⟨rfl, .inr ⟨rfl, _, rfl⟩⟩
    · refine .inr ⟨e, ?_⟩
      split at hs <;> (rw [List.getElem?_set_ne (Ne.symm e)] at hs; exact hs)
  refine ⟨⟨Same.refl _, fun b x hb nb ob => ?_, al, rfl, rfl⟩, ⟨S.sub.write fun b hb => upd_ne fun e => hb (by rw [e]; exact n), ?_, fun j s hs => ?_, fun j k s t b hjk hs ht so to hb => ?_, fun b ob => al b (S.ot b ob), fun b ob => al b (S.ea b ob)⟩⟩
  · have e : b ≠ a := fun e => ob (by rw [e]; exact oa)
    exact ⟨by rw [upd_ne e]; exact hb, nb, ob⟩
  · have := S.len
    unfold setCell
    split <;> simpa using this
  · rcases get j s hs with ⟨rfl, _, z⟩ | ⟨hj, hs'⟩
    · refine ⟨.ref a, ha, ?_⟩
      rcases z with ⟨rfl, c0, e0⟩ | ⟨rfl, c0, e0⟩
      · obtain ⟨v0, h1, h2⟩ := S.slot _ _ e0
        rw [ha] at h1
        cases h1
        obtain ⟨a2, e2, _, _, _, hb⟩ := h2
        cases e2
        exact ⟨a, rfl, n, oa, hc, hb⟩
      · obtain ⟨v0, h1, h2⟩ := S.slot _ _ e0
        rw [ha] at h1
        cases h1
        obtain ⟨a2, e2, _, _, _, hb⟩ := h2
        cases e2
        exact ⟨a, rfl, n, oa, hc, hb⟩
    · obtain ⟨v, h1, h2⟩ := S.slot j s hs'
      refine ⟨v, h1, ?_⟩
      have ne : ∀ {b : Addr}, v = .ref b → s.owned ≠ none → b ≠ a := fun {b} e so e2 => by
        subst e e2
        unfold cellAt at h
        cases e3 : ρ[i]? with
        | none => rw [e3] at h; cases h
        | some t =>
          rw [e3] at h
          cases t with
          | none => cases h
          | some t =>
            refine S.dis j i s t b hj hs' e3 so ?_ h1 ha
            cases t with
            | val w => cases h
            | own _ => exact fun z => by cases z
            | ref _ => exact fun z => by cases z
      cases s with
      | val w => exact h2
      | own c0 =>
        obtain ⟨b, e, nb, ob, q, hb⟩ := h2
        exact ⟨b, e, nb, ob, q.mono (Same.refl _) (fun x hx => by rw [upd_ne (ne e (by simp [Slot.owned]))]; exact hx), hb⟩
      | ref c0 =>
        obtain ⟨b, e, nb, ob, q, hb⟩ := h2
        exact ⟨b, e, nb, ob, q.mono (Same.refl _) (fun x hx => by rw [upd_ne (ne e (by simp [Slot.owned]))]; exact hx), hb⟩
  · have old : ∀ (j : Nat) (s : Slot), (setCell ρ i c')[j]? = some (some s) → s.owned ≠ none → ∃ s', ρ[j]? = some (some s') ∧ s'.owned ≠ none := fun j s hs so => by
      rcases get j s hs with ⟨rfl, _, z⟩ | ⟨_, hs'⟩
      · rcases z with ⟨_, c0, e0⟩ | ⟨_, c0, e0⟩
        · exact ⟨_, e0, by simp [Slot.owned]⟩
        · exact ⟨_, e0, by simp [Slot.owned]⟩
      · exact ⟨s, hs', so⟩
    obtain ⟨s', hs', so'⟩ := old j s hs so
    obtain ⟨t', ht', to'⟩ := old k t ht to
    exact S.dis j k s' t' b hjk hs' ht' so' to' hb
/-! ### a name is stored -/
def slotFor : Bool → W → Option Slot
  | false, .dat d => some (.val (.dat d))
  | false, .obj c fs => some (.val (.obj c fs))
  | false, .scr ns => some (.val (.scr ns))
  | true, .fresh c => some (.own c)
  | _, _ => none
def storeW (ow : Bool) (i : Nat) (w : W) (ρ : Env') : Option Env' :=
  match ρ[i]? with
  | none => none
  | some (some (.ref _)) => none
  | some _ => match slotFor ow w with
    | some s => some (ρ.set i (some s))
    | none => none
theorem SR.storeVal (S : SR X g σ H ρ) {i : Nat} {v : V} {w : W} (hi : i < ρ.length) (h : RepP X g.G v w) (hn : ∀ c, ρ[i]? ≠ some (some (.ref c))) : SR X g (σ.set i (some v)) H (ρ.set i (some (.val w))) := by
  have hi' : i < σ.length := by rw [S.len]; exact hi
  refine ⟨S.sub, by simp [S.len], fun j s hs => ?_, fun j k s t b hjk hs ht so to hb => ?_, S.ot, S.ea⟩
  · by_cases e : j = i
    · subst e
      rw [List.getElem?_set_self hi] at hs
      cases hs
      exact ⟨v, by rw [List.getElem?_set_self hi'], h⟩
    · rw [List.getElem?_set_ne (Ne.symm e)] at hs
      rw [List.getElem?_set_ne (Ne.symm e)]
      exact S.slot j s hs
  · have nj : j ≠ i := fun e => by
      subst e
      rw [List.getElem?_set_self hi] at hs
      cases hs
      exact so rfl
    have nk : k ≠ i := fun e => by
      subst e
      rw [List.getElem?_set_self hi] at ht
      cases ht
      exact to rfl
    rw [List.getElem?_set_ne (Ne.symm nj)] at hs hb
    rw [List.getElem?_set_ne (Ne.symm nk)] at ht
    rw [List.getElem?_set_ne (Ne.symm nk)]
    exact S.dis j k s t b hjk hs ht so to hb
theorem SR.store {g0 : Gh} {H0 : Hp} (x : Ext g0 H0 g H) (S : SR X g σ H ρ) {ow : Bool} {i : Nat} {v : V} {w : W} {ρ' : Env'} (r : RepW X g σ H v w) (f : FreshIn H0 v w) (h : storeW ow i w ρ = some ρ')
    (e0 : ∀ b, g0.E b ≠ none → H0 b ≠ none) : ∃ g', Ext g0 H0 g' H ∧ SR X g' (σ.set i (some v)) H ρ' ∧ g'.G = g.G ∧ (∀ b, g'.O b ↔ g.O b ∨ (w.isFresh = true ∧ v = .ref b)) ∧ g'.B = g.B := by
  unfold storeW at h
  cases e : ρ[i]? with
  | none => rw [e] at h; cases h
  | some s =>
    have hi : i < ρ.length := (List.getElem?_eq_some_iff.mp e).1
    have hi' : i < σ.length := by rw [S.len]; exact hi
    have hn : ∀ c, ρ[i]? ≠ some (some (.ref c)) := fun c z => by
      rw [e] at z
      have z := Option.some.inj z
      subst z
      rw [e] at h
      cases h
    have val : ∀ w, w.isFresh = false → RepP X g.G v w → ∃ g', Ext g0 H0 g' H ∧ SR X g' (σ.set i (some v)) H (ρ.set i (some (.val w))) ∧ g'.G = g.G ∧ (∀ b, g'.O b ↔ g.O b ∨ (w.isFresh = true ∧ v = .ref b)) ∧ g'.B = g.B :=
      fun w hw hp => ⟨g, x, S.storeVal hi hp hn, rfl, fun b => by rw [hw]; simp, rfl⟩
    have h2 : (match slotFor ow w with
      | some s => some (ρ.set i (some s))
      | none => none) = some ρ' := by
      rw [e] at h
      cases s with
      | none => exact h
      | some s =>
        cases s with
        | val _ => exact h
        | own _ => exact h
        | ref c => cases h
    cases ow with
    | false =>
      cases w with
      | dat d => cases h2; exact val (.dat d) rfl r
      | obj c fs => cases h2; exact val (.obj c fs) rfl r
      | scr ns => cases h2; exact val (.scr ns) rfl r
      | fresh c => cases h2
      | own j => cases h2
    | true =>
      cases w with
      | dat d => cases h2
      | obj c fs => cases h2
      | scr ns => cases h2
      | own j => cases h2
      | fresh c =>
        cases h2
        obtain ⟨a, ev, n, o, q⟩ := r
        subst ev
        have h0 := f rfl a rfl
        refine ⟨⟨g.G, fun b => g.O b ∨ b = a, g.B, g.E⟩, ⟨x.up, fun b y hb nb ob => ?_, x.al, x.bb, x.be⟩, ⟨S.sub, by simp [S.len], fun j s hs => ?_, fun j k s t b hjk hs ht so to hb => ?_, fun b ob => ?_, S.ea⟩, rfl, fun b => ?_, rfl⟩
        · obtain ⟨h1, h2, h3⟩ := x.fr b y hb nb ob
          exact ⟨h1, h2, fun z => z.elim h3 fun e => ne_of_none hb h0 e⟩
        · by_cases e : j = i
          · subst e
            rw [List.getElem?_set_self hi] at hs
            cases hs
            refine ⟨.ref a, by rw [List.getElem?_set_self hi'], a, rfl, n, .inr rfl, q, ?_⟩
            show g.E a = none
            cases ee : g.E a with
            | none => rfl
            | some y => exact absurd h0 (e0 a (by rw [← x.be, ee]; exact fun z => by cases z))
          · rw [List.getElem?_set_ne (Ne.symm e)] at hs
            rw [List.getElem?_set_ne (Ne.symm e)]
            obtain ⟨u, h1, h2⟩ := S.slot j s hs
            refine ⟨u, h1, ?_⟩
            cases s with
            | val w => exact h2
            | own c0 =>
              obtain ⟨b, e, nb, ob, q⟩ := h2
              exact ⟨b, e, nb, .inl ob, q⟩
            | ref c0 =>
              obtain ⟨b, e, nb, ob, q⟩ := h2
              exact ⟨b, e, nb, .inl ob, q⟩
        · have ne : ∀ (j : Nat) (s : Slot) (b : Addr), j ≠ i → ρ[j]? = some (some s) → s.owned ≠ none → σ[j]? = some (some (.ref b)) → b ≠ a := fun j s b hj hs so hb e => by
            obtain ⟨u, h1, h2⟩ := S.slot j s hs
            rw [hb] at h1
            cases h1
            subst e
            cases s with
            | val w => exact so rfl
            | own c0 =>
              obtain ⟨b', e', _, ob, _⟩ := h2
              cases e'
              exact o ob
            | ref c0 =>
              obtain ⟨b', e', _, ob, _⟩ := h2
              cases e'
              exact o ob
          by_cases ej : j = i
          · subst ej
            have nk : k ≠ j := Ne.symm hjk
            rw [List.getElem?_set_self hi'] at hb
            cases hb
            rw [List.getElem?_set_ne (Ne.symm nk)] at ht
            rw [List.getElem?_set_ne (Ne.symm nk)]
            exact fun z => ne k t a nk ht to z rfl
          · rw [List.getElem?_set_ne (Ne.symm ej)] at hs hb
            by_cases ek : k = i
            · subst ek
              rw [List.getElem?_set_self hi']
              intro z
              cases z
              exact ne j s a ej hs so hb rfl
            · rw [List.getElem?_set_ne (Ne.symm ek)] at ht
              rw [List.getElem?_set_ne (Ne.symm ek)]
              exact S.dis j k s t b hjk hs ht so to hb
        · rcases ob with ob | rfl
          · exact S.ot b ob
          · obtain ⟨y, hy⟩ := q.some
            rw [hy]
            exact fun z => by cases z
        · constructor
          · rintro (z | rfl)
            · exact .inl z
            · exact .inr ⟨rfl, rfl⟩
          · rintro (z | ⟨_, z⟩)
            · exact .inl z
            · cases z; exact .inr rfl
end
end Py

namespace Py
open PySem PySem.Spec PyProof.Rows L2
section
variable {X : Cx} {Wx : WX}
/-! ### displays, calls of built-ins, methods, slices -/
def datsW : List W → Option (List D)
  | [] => some []
  | .dat d :: r => match datsW r with
    | some ds => some (d :: ds)
    | none => none
  | _ :: _ => none
theorem RepWs.dats {g : Gh} {σ : L2.St} {H₀ H : Hp} : ∀ {vs : List V} {ws : List W} {ds : List D}, RepWs X g σ H₀ H vs ws → datsW ws = some ds → RepAll X.K g.G vs ds
  | _, _, _, .nil, h => by cases h; exact .nil
  | _, _, _, .cons (w := w) (ws := ws) r _ t _, h => by
    cases w with
    | dat d =>
      unfold datsW at h
      cases e : datsW ws with
      | none => rw [e] at h; cases h
      | some es => rw [e] at h; cases h; exact .cons r (RepWs.dats t e)
    | _ => cases h
def lim : Nat := 16777216
theorem lim_eq : lim = sizeLine := by rw [sizeLine_eq]; rfl
def lstF (ws : List W) (ρ : Env') : Option (R W) := match datsW ws with
  | some ds => if ds.length ≤ lim then some (.ok (.fresh (.lst ds)) ρ) else none
  | none => none
def tupF (ws : List W) (ρ : Env') : Option (R W) := match datsW ws with
  | some ds => if ds.length ≤ lim then some (.ok (.dat (.tuple ds)) ρ) else none
  | none => none
def callS (F : List W → Env' → Option (R W)) (sa : AS) : ES := fun ρ => bnd (sa ρ) F
theorem okLst {es : List Expr} {sa : AS} {pos : Pos} (ha : OkA X Wx es sa) : OkE X Wx (.List es pos) (callS lstF sa) := by
  obtain ⟨t, p, q⟩ := ha
  refine ⟨_, pe_lst p, fun g σ H ρ Q S h => q g σ H ρ _ S (PostG.bind later_E h ?_)⟩
  intro ws ρ1 g1 H1 vs _ e1 S1 r1 h1
  unfold lstF at h1
  cases e : datsW ws with
  | none => rw [e] at h1; exact h1.elim
  | some ds =>
    rw [e] at h1
    have r := RepWs.dats r1 e
    have hl := r.length
    by_cases hz : ds.length ≤ lim
    · simp only [hz, if_true] at h1
      exact ⟨by rw [hl, ← lim_eq]; exact hz, fun p hp => PostE.newList S1 h1 r hp⟩
    · simp only [hz, if_false] at h1
      exact h1.elim
theorem okTup {es : List Expr} {sa : AS} {k : Nat} {pos : Pos} (ha : OkA X Wx es sa) : OkE X Wx (.Tuple es k pos) (callS tupF sa) := by
  obtain ⟨t, p, q⟩ := ha
  refine ⟨_, pe_tup p, fun g σ H ρ Q S h => q g σ H ρ _ S (PostG.bind later_E h ?_)⟩
  intro ws ρ1 g1 H1 vs _ e1 S1 r1 h1
  unfold tupF at h1
  cases e : datsW ws with
  | none => rw [e] at h1; exact h1.elim
  | some ds =>
    rw [e] at h1
    have r := RepWs.dats r1 e
    have hl := r.length
    by_cases hz : ds.length ≤ lim
    · simp only [hz, if_true] at h1
      exact ⟨by rw [hl, ← lim_eq]; exact hz, fun p hp => PostE.newTup S1 h1 r hp⟩
    · simp only [hz, if_false] at h1
      exact h1.elim
def SemC (X : Cx) (Wx : WX) (r : List V → Hp → VK → Prop) (F : List W → Env' → Option (R W)) : Prop := ∀ g σ H0 H ρ vs ws Q, SR X g σ H ρ → RepWs X g σ H0 H vs ws → PostE X Wx g σ H (F ws ρ) Q → r vs H Q
theorem okCallB {x : Str} {p pos : Pos} {e : Expr} {es : List Expr} {id : String} {r : List V → Hp → VK → Prop} {F : List W → Env' → Option (R W)} {sa : AS} (hc : CallR X (.builtin id) r) (hr : SemC X Wx r F) (hg : Gl X x) (hm : X.mg x = none)
    (hv : bootBuiltins x = some (.builtin id)) (ha : OkA X Wx (e :: es) sa) (hn : x ≠ "__name__" := by decide) (hdb : (x == ("__debug__" : Str)) = false := by decide)
    (he : starEach (e :: es) X.env = (false, eval e X.env) :: starEach es X.env := by rfl) (hpl : (backTo pos (starEach es X.env)).any (·.1) = false := by rfl) : OkE X Wx (.Call (.Name x p) (e :: es) [] pos) (callS F sa) := by
  obtain ⟨t, p, q⟩ := ha
  refine ⟨_, pe_callB hc hg hm hv p hn hdb he hpl, fun g σ H ρ Q S h => q g σ H ρ _ S (PostG.bind later_E h ?_)⟩
  intro ws ρ1 g1 H1 vs _ e1 S1 r1 h1
  exact hr g1 σ H H1 ρ1 vs ws Q S1 r1 h1
theorem okCallTy {x : Str} {p pos : Pos} {e : Expr} {es : List Expr} {T : String} {r : List V → Hp → VK → Prop} {F : List W → Env' → Option (R W)} {sa : AS} (hc : CallR X (.type T) r) (hr : SemC X Wx r F) (hg : Gl X x) (hm : X.mg x = none)
    (hv : bootBuiltins x = some (.type T)) (ha : OkA X Wx (e :: es) sa) (hn : x ≠ "__name__" := by decide) (hdb : (x == ("__debug__" : Str)) = false := by decide)
    (he : starEach (e :: es) X.env = (false, eval e X.env) :: starEach es X.env := by rfl) (hpl : (backTo pos (starEach es X.env)).any (·.1) = false := by rfl) : OkE X Wx (.Call (.Name x p) (e :: es) [] pos) (callS F sa) := by
  obtain ⟨t, p, q⟩ := ha
  refine ⟨_, pe_callTy hc hg hm hv p hn hdb he hpl, fun g σ H ρ Q S h => q g σ H ρ _ S (PostG.bind later_E h ?_)⟩
  intro ws ρ1 g1 H1 vs _ e1 S1 r1 h1
  exact hr g1 σ H H1 ρ1 vs ws Q S1 r1 h1
/-- a[b] -/
theorem okIx {r : R2} {gop : W → W → Env' → Option (R W)} {a b : Expr} {sa sb : ES} {pos : Pos} (ho : IxR X r) (hr : Sem2 X Wx r gop) (ha : OkE X Wx a sa) (hb : OkE X Wx b sb) (hs : PlainIx b) : OkE X Wx (.Subscript a b pos) (opS gop sa sb) :=
  let ⟨_, p, q⟩ := ha; let ⟨_, p', q'⟩ := hb; ⟨_, pe_ix ho p p' hs, tr_op q q' hr⟩
/-- o.m(..), m a method of a built-in type -/
def SemM (X : Cx) (Wx : WX) (T : String) (r : V → List V → Hp → VK → Prop) (ty : W → Env' → Bool) (F : W → List W → Env' → Option (R W)) : Prop :=
  (∀ g σ H ρ x w, SR X g σ H ρ → RepW X g σ H x w → ty w ρ = true → tyV X.K T x H) ∧ ∀ g σ H0 H ρ x w vs ws Q, SR X g σ H ρ → RepW X g σ H x w → RepWs X g σ H0 H vs ws → PostE X Wx g σ H (F w ws ρ) Q → r x vs H Q
def methS (ty : W → Env' → Bool) (F : W → List W → Env' → Option (R W)) (so : ES) (sa : AS) : ES := fun ρ => bnd (so ρ) fun w ρ => if ty w ρ = true then bnd (sa ρ) fun ws ρ => F w ws ρ else none
theorem okMeth {o e : Expr} {es : List Expr} {name : Str} {apos cpos : Pos} {T id : String} {r : V → List V → Hp → VK → Prop} {ty : W → Env' → Bool} {F : W → List W → Env' → Option (R W)} {so : ES} {sa : AS}
    (pa : PlainAttrs T) (slot : PySem.Slot T name id) (hty : typeOf (.builtin id) = pure (.type "method_descriptor")) (hm : MtR X id r) (hr : SemM X Wx T r ty F) (ho : OkE X Wx o so) (ha : OkA X Wx (e :: es) sa)
    (hbase : attributeBase o name X.env (eval o X.env) = eval o X.env := by rfl)
    (hfew : ((backTo cpos (starEach (e :: es) X.env)).all (fun x => !x.1) && (backToKw cpos (keywordEach [] X.env)).all (fun x => x.1.isSome)
      && decide ((e :: es).length + ([] : List Keyword).length + (if ([] : List Keyword).isEmpty then 0 else 1) < 30)) = true := by rfl)
    (hline : (apos.endLine == cpos.line) = true := by rfl) (hs : starEach (e :: es) X.env = (false, eval e X.env) :: starEach es X.env := by rfl) (hplain : (backTo cpos (starEach es X.env)).any (·.1) = false := by rfl) :
    OkE X Wx (.Call (.Attribute o name apos) (e :: es) [] cpos) (methS ty F so sa) := by
  obtain ⟨t, p, q⟩ := ho
  obtain ⟨t', p', q'⟩ := ha
  refine ⟨_, pe_bm pa slot hty hm p p' hbase hfew hline hs hplain, fun g σ H ρ Q S h => q g σ H ρ _ S (PostG.bind later_E h ?_)⟩
  intro w ρ1 g1 H1 x _ e1 S1 r1 h1
  by_cases z : ty w ρ1 = true
  · rw [if_pos z] at h1
    refine ⟨hr.1 g1 σ H1 ρ1 x w S1 r1.1 z, q' g1 σ H1 ρ1 _ S1 (PostG.bind later_E h1 ?_)⟩
    intro ws ρ2 g2 H2 vs _ e2 S2 r2 h2
    exact hr.2 g2 σ H1 H2 ρ2 x w vs ws Q S2 (r1.1.ext e2) r2 h2
  · rw [if_neg z] at h1
    exact h1.elim
theorem okMeth0 {o : Expr} {name : Str} {apos cpos : Pos} {T id : String} {r : V → List V → Hp → VK → Prop} {ty : W → Env' → Bool} {F : W → List W → Env' → Option (R W)} {so : ES}
    (pa : PlainAttrs T) (slot : PySem.Slot T name id) (hty : typeOf (.builtin id) = pure (.type "method_descriptor")) (hm : MtR X id r) (hr : SemM X Wx T r ty F) (ho : OkE X Wx o so)
    (hbase : attributeBase o name X.env (eval o X.env) = eval o X.env := by rfl) (hline : (apos.endLine == cpos.line) = true := by rfl) : OkE X Wx (.Call (.Attribute o name apos) [] [] cpos) (methS ty F so nilS) := by
  obtain ⟨t, p, q⟩ := ho
  refine ⟨_, pe_bm0 pa slot hty hm p hbase hline, fun g σ H ρ Q S h => q g σ H ρ _ S (PostG.bind later_E h ?_)⟩
  intro w ρ1 g1 H1 x _ e1 S1 r1 h1
  by_cases z : ty w ρ1 = true
  · rw [if_pos z] at h1
    exact ⟨hr.1 g1 σ H1 ρ1 x w S1 r1.1 z, hr.2 g1 σ H1 H1 ρ1 x w [] [] Q S1 r1.1 .nil h1⟩
  · rw [if_neg z] at h1
    exact h1.elim

/-! ### blocks and small statements -/
def nxS : SS := fun ρ => some (.nx ρ)
def seqS (s u : SS) : SS := fun ρ => match s ρ with
  | some (.nx ρ) => u ρ
  | o => o
theorem okNil : OkSs X Wx [] nxS := ⟨_, pss_nil, fun g σ H ρ E S h => h g σ H (Ext.refl _ _) S⟩
theorem tr_seq {t u : TS} {s v : SS} (h1 : TrS X Wx t s) (h2 : TrS X Wx u v) : TrS X Wx (tSeq t u) (seqS s v) := by
  intro g σ H ρ E S h
  refine h1 g σ H ρ _ S ?_
  unfold seqS at h
  cases e : s ρ with
  | none => rw [e] at h; exact h
  | some o =>
    rw [e] at h
    cases o with
    | nx ρ' => exact fun g' σ' H' x S' => h2 g' σ' H' ρ' E S' (PostS.shift x h)
    | ret w ρ' => exact h
    | brk ρ' => exact h
    | ct ρ' => exact h
    | ex c d ρ' => exact h
theorem okCons {st : Stmt} {r : List Stmt} {s u : SS} (h1 : OkS X Wx st s) (h2 : OkSs X Wx r u) : OkSs X Wx (st :: r) (seqS s u) := let ⟨_, p, q⟩ := h1; let ⟨_, p', q'⟩ := h2; ⟨_, pss_cons p p', tr_seq q q'⟩
theorem okLast {st : Stmt} {s : SS} (h1 : OkS X Wx st s) : OkSs X Wx [st] s := let ⟨_, p, q⟩ := h1; ⟨_, pss_one p, q⟩
theorem okPass {pos : Pos} : OkS X Wx (.Pass pos) nxS := ⟨_, ps_pass, fun g σ H ρ E S h => h g σ H (Ext.refl _ _) S⟩
def brkS : SS := fun ρ => some (.brk ρ)
def ctS : SS := fun ρ => some (.ct ρ)
theorem okBreak {pos : Pos} : OkS X Wx (.Break pos) brkS := ⟨_, ps_break, fun g σ H ρ E S h => h g σ H (Ext.refl _ _) S⟩
theorem okCont {pos : Pos} : OkS X Wx (.Continue pos) ctS := ⟨_, ps_continue, fun g σ H ρ E S h => h g σ H (Ext.refl _ _) S⟩
/-- a statement that the proof never comes to -/
def nevS : SS := fun _ => none
theorem okNever {st : Stmt} : OkS X Wx st nevS := ⟨_, ps_never, fun g σ H ρ E S h => h.elim⟩
/-- from an expression's end to a statement's -/
def toS {α : Type} (x : Option (R α)) (f : α → Env' → Option O) : Option O := match x with
  | none => none
  | some (.ok a ρ) => f a ρ
  | some (.ex c d ρ) => some (.ex c d ρ)
@[simp] theorem toS_ok {α : Type} (a : α) (ρ : Env') (f : α → Env' → Option O) : toS (some (.ok a ρ)) f = f a ρ := rfl
theorem PostS.bind {α β : Type} {rel : Hp → Gh → Hp → β → α → Prop} {g : Gh} {σ : L2.St} {H : Hp} {o : Option (R α)} {f : α → Env' → Option O} {E : Ends} {Q1 : β → Hp → Prop}
    (h : PostS X Wx g H (toS o f) E) (k : ∀ a ρ1 g1 H1 v, o = some (.ok a ρ1) → Ext g H g1 H1 → SR X g1 σ H1 ρ1 → rel H g1 H1 v a → PostS X Wx g H (f a ρ1) E → Q1 v H1) : PostG X Wx rel g σ H o Q1 := by
  cases o with
  | none => exact h
  | some r =>
    cases r with
    | ok a ρ' => exact fun g' H' v e s r => k a ρ' g' H' v rfl e s r h
    | ex c d ρ' => exact fun g' H' cv da e s r => h g' σ H' cv da e s r
def exprS (s : ES) : SS := fun ρ => toS (s ρ) fun _ ρ => some (.nx ρ)
theorem okExpr {e : Expr} {s : ES} {pos : Pos} (h : OkE X Wx e s) (hs : swapsWith e none pos.line X.env = pure false := by rfl) : OkS X Wx (.Expr e pos) (exprS s) := by
  obtain ⟨t, p, q⟩ := h
  refine ⟨_, ps_expr p hs, fun g σ H ρ E S h => q g σ H ρ _ S (PostS.bind h ?_)⟩
  intro w ρ1 g1 H1 x _ e1 S1 r1 h1
  exact h1 g1 σ H1 e1 S1
/-- what is handed back: what a slot owns leaves it -/
def retW (w : W) (ρ : Env') : Option O := match w with
  | .own i => match ρ[i]? with
    | some (some (.own c)) => some (.ret (.fresh c) (ρ.set i none))
    | _ => none
  | w => some (.ret w ρ)
def retS (s : ES) : SS := fun ρ => toS (s ρ) retW
theorem SR.forget {g : Gh} {σ : L2.St} {H : Hp} {ρ : Env'} (S : SR X g σ H ρ) (i : Nat) : SR X g σ H (ρ.set i none) := by
  have old : ∀ {j : Nat} {s : Slot}, (ρ.set i none)[j]? = some (some s) → ρ[j]? = some (some s) := fun {j s} h => by
    by_cases e : i = j
    · subst e
      by_cases hi : i < ρ.length
      · rw [List.getElem?_set_self hi] at h; cases h
      · rw [List.getElem?_eq_none (by simpa using hi)] at h; cases h
    · rw [List.getElem?_set_ne e] at h; exact h
  exact ⟨S.sub, by simpa using S.len, fun j s h => S.slot j s (old h), fun j k s t a hjk hs ht => S.dis j k s t a hjk (old hs) (old ht), S.ot, S.ea⟩
end
end Py

namespace Py
open PySem PySem.Spec PyProof.Rows L2
section
variable {X : Cx} {Wx : WX}
/-- a slot lets go of what it owns -/
theorem SR.release {g : Gh} {σ : L2.St} {H : Hp} {ρ : Env'} (S : SR X g σ H ρ) {i : Nat} {c : Cell} (hi : ρ[i]? = some (some (.own c))) :
    ∃ g' a, Ext g H g' H ∧ SR X g' σ H (ρ.set i none) ∧ σ[i]? = some (some (.ref a)) ∧ g'.G a = none ∧ ¬ g'.O a ∧ CellR X g'.G H a c ∧ g.E a = none ∧ g'.G = g.G := by
  obtain ⟨v, h1, a, rfl, n, o, q, ea⟩ := S.slot i _ hi
  have S1 := S.forget i
  refine ⟨⟨g.G, fun b => g.O b ∧ b ≠ a, g.B, g.E⟩, a, ⟨Same.refl _, fun b x hb nb ob => ⟨hb, nb, fun z => ob z.1⟩, fun _ h => h, rfl, rfl⟩, ⟨S1.sub, S1.len, fun j s hs => ?_, S1.dis, fun b ob => S.ot b ob.1, S.ea⟩, h1, n, fun z => z.2 rfl, q, ea, rfl⟩
  have hj : i ≠ j := fun e => by
    subst e
    have hl : i < ρ.length := (List.getElem?_eq_some_iff.mp hi).1
    rw [List.getElem?_set_self hl] at hs
    cases hs
  obtain ⟨v, h2, h3⟩ := S1.slot j s hs
  refine ⟨v, h2, ?_⟩
  rw [List.getElem?_set_ne hj] at hs
  have ne : ∀ {b : Addr}, v = .ref b → s.owned ≠ none → b ≠ a := fun {b} e so e2 => by
    subst e e2
    exact S.dis i j (.own c) s b hj hi hs (by simp [Slot.owned]) so h1 h2
  cases s with
  | val w => exact h3
  | own c0 =>
    obtain ⟨b, e, nb, ob, q⟩ := h3
    exact ⟨b, e, nb, ⟨ob, ne e (by simp [Slot.owned])⟩, q⟩
  | ref c0 =>
    obtain ⟨b, e, nb, ob, q⟩ := h3
    exact ⟨b, e, nb, ⟨ob, ne e (by simp [Slot.owned])⟩, q⟩
theorem okRet {e : Expr} {s : ES} {pos : Pos} (h : OkE X Wx e s) : OkS X Wx (.Return (some e) pos) (retS s) := by
  obtain ⟨t, p, q⟩ := h
  refine ⟨_, ps_ret p, fun g σ H ρ E S h => q g σ H ρ _ S (PostS.bind h ?_)⟩
  intro w ρ1 g1 H1 x _ e1 S1 r1 h1
  have fe : FreshIn g.E x w := fun f a e => by
    have := r1.2 f a e
    cases q : g.E a with
    | none => rfl
    | some y => exact absurd this (S.ea a (by rw [q]; exact fun z => by cases z))
  cases w with
  | dat d => exact h1 g1 σ H1 x e1 S1 r1.1 fe
  | obj c fs => exact h1 g1 σ H1 x e1 S1 r1.1 fe
  | scr ns => exact h1 g1 σ H1 x e1 S1 r1.1 fe
  | fresh c => exact h1 g1 σ H1 x e1 S1 r1.1 fe
  | own i =>
    unfold retW at h1
    cases ei : ρ1[i]? with
    | none => simp only [ei] at h1; exact h1.elim
    | some s =>
      cases s with
      | none => simp only [ei] at h1; exact h1.elim
      | some s =>
        cases s with
        | val w => simp only [ei] at h1; exact h1.elim
        | ref c => simp only [ei] at h1; exact h1.elim
        | own c =>
          simp only [ei] at h1
          obtain ⟨g2, a, x2, S2, ha, n, o, q, ea, _⟩ := S1.release ei
          have r : σ[i]? = some (some x) := r1.1
          rw [ha] at r
          cases r
          refine h1 g2 σ H1 (.ref a) (e1.trans x2) S2 ⟨a, rfl, n, o, q⟩ fun _ b e => ?_
          cases e
          rw [e1.be] at ea
          exact ea
theorem okRetN {pos : Pos} : OkS X Wx (.Return none pos) (retS (cS .none)) :=
  ⟨_, ps_retN, fun g σ H ρ E S h => h g σ H .non (Ext.refl _ _) S (show Rep X.K g.G .non .none from .non) FreshIn.dat⟩
def ifS (c : BS) (s u : SS) : SS := fun ρ => toS (c ρ) fun b ρ => if b then s ρ else u ρ
theorem okIfS {c : Expr} {a b : List Stmt} {t : BS} {s u : SS} {pos : Pos} (hc : OkT X Wx c t) (ha : OkSs X Wx a s) (hb : OkSs X Wx b u) : OkS X Wx (.If c a b pos) (ifS t s u) := by
  obtain ⟨t0, p0, q0⟩ := hc
  obtain ⟨t1, p, q⟩ := ha
  obtain ⟨t2, p', q'⟩ := hb
  refine ⟨_, ps_if p0 p p', fun g σ H ρ E S h => q0 g σ H ρ _ S (PostS.bind h ?_)⟩
  intro b ρ1 g1 H1 x _ e1 S1 r1 h1
  cases r1
  cases b with
  | true => rw [if_pos rfl]; exact q g1 σ H1 ρ1 E S1 (PostS.shift e1 h1)
  | false => rw [if_neg Bool.false_ne_true]; exact q' g1 σ H1 ρ1 E S1 (PostS.shift e1 h1)
/-! ### stores -/
def asgS (ow : Bool) (i : Nat) (s : ES) : SS := fun ρ => toS (s ρ) fun w ρ => match storeW ow i w ρ with
  | some ρ' => some (.nx ρ')
  | none => none
theorem tr_asg {te : TE} {s : ES} {ow : Bool} {i : Nat} (q : TrE X Wx te s) : TrS X Wx (tAsg te (gName i)) (asgS ow i s) := by
  intro g σ H ρ E S h
  refine q g σ H ρ _ S (PostS.bind h ?_)
  intro w ρ1 g1 H1 x _ e1 S1 r1 h1
  cases e : storeW ow i w ρ1 with
  | none => rw [e] at h1; exact h1.elim
  | some ρ2 =>
    rw [e] at h1
    obtain ⟨g2, x2, S2, _⟩ := SR.store e1 S1 r1.1 r1.2 e S.ea
    exact h1 g2 _ H1 x2 S2
theorem okAsg {i : Nat} {ow : Bool} {x : Str} {e : Expr} {s : ES} {pos pos' : Pos} (hN : X.N.Nodup) (hi : X.N[i]? = some x) (hx : Loc X.env.scope x) (he : OkE X Wx e s) (hs : swapsWith e (some (.Name x pos')) pos.line X.env = pure false := by rfl)
    (hf : X.fn x = true ∨ X.env.scope.names.lookup x = some .local := by first | exact .inl rfl | exact .inr rfl | assumption) : OkS X Wx (.Assign [.Name x pos'] e pos) (asgS ow i s) :=
  let ⟨_, p, q⟩ := he; ⟨_, ps_set hN hi hx p hs hf, tr_asg q⟩
/-! several at once -/
def storeAll : List (Nat × Bool) → List W → Env' → Option Env'
  | [], [], ρ => some ρ
  | (i, ow) :: is, w :: ws, ρ => match storeW ow i w ρ with
    | some ρ' => storeAll is ws ρ'
    | none => none
  | _, _, _ => none
def setAll : List Nat → List V → L2.St → L2.St
  | i :: is, v :: vs, σ => setAll is vs (σ.set i (some v))
  | _, _, σ => σ
def W.isOwn : W → Bool
  | .own _ => true
  | _ => false
theorem RepW.noOwn {g : Gh} {σ σ' : L2.St} {H : Hp} {v : V} {w : W} (h : RepW X g σ H v w) (o : w.isOwn = false) : RepW X g σ' H v w := by
  cases w with
  | own i => cases o
  | _ => exact h
theorem storeW_noOwn {ow : Bool} {i : Nat} {w : W} {ρ ρ' : Env'} (h : storeW ow i w ρ = some ρ') : w.isOwn = false := by
  cases w with
  | own j =>
    unfold storeW at h
    cases e : ρ[i]? with
    | none => rw [e] at h; cases h
    | some s => rw [e] at h; cases s with
      | none => cases ow <;> cases h
      | some s => cases s <;> cases ow <;> cases h
  | _ => rfl
theorem SR.storeAll {g0 : Gh} {H0 H : Hp} (e0 : ∀ b, g0.E b ≠ none → H0 b ≠ none) : ∀ {is : List (Nat × Bool)} {vs : List V} {ws : List W} {g : Gh} {σ σ0 : L2.St} {ρ ρ' : Env'}, Ext g0 H0 g H → SR X g σ H ρ → RepWs X g σ0 H0 H vs ws →
    storeAll is ws ρ = some ρ' → ∃ g', Ext g0 H0 g' H ∧ SR X g' (setAll (is.map (·.1)) vs σ) H ρ'
  | [], [], [], g, σ, σ0, ρ, ρ', x, S, _, h => by cases h; exact ⟨g, x, S⟩
  | [], _ :: _, _ :: _, _, _, _, _, _, _, _, _, h => by cases h
  | _ :: _, [], [], _, _, _, _, _, _, _, _, h => by cases h
  | (i, ow) :: is, v :: vs, w :: ws, g, σ, σ0, ρ, ρ', x, S, .cons r f t n, h => by
    unfold Py.storeAll at h
    cases e : storeW ow i w ρ with
    | none => rw [e] at h; cases h
    | some ρ1 =>
      rw [e] at h
      obtain ⟨g1, x1, S1, eG, eO, eB⟩ := SR.store x S (r.noOwn (storeW_noOwn e)) f e e0
      refine SR.storeAll (σ0 := σ0) (vs := vs) (ws := ws) e0 x1 S1 ?_ h
      -- the rest is what it was
      have : ∀ {us : List V} {zs : List W}, RepWs X g σ0 H0 H us zs → (w.isFresh = true → ∀ (i : Nat) (u : V) (z : W), us[i]? = some u → zs[i]? = some z → z.isFresh = true → v ≠ u) → RepWs X g1 σ0 H0 H us zs := by
        intro us zs t
        induction t with
        | nil => intro _; exact .nil
        | cons r' f' t' n' ih =>
          rename_i u z us zs
          intro k
          refine .cons ?_ f' (ih fun hw j u' z' h1 h2 => k hw (j + 1) u' z' (by simpa using h1) (by simpa using h2)) n'
          cases z with
          | dat d => exact (show Rep X.K g1.G u d by rw [eG]; exact r')
          | obj c fs => exact (show RepP X g1.G u (.obj c fs) by rw [eG]; exact r')
          | scr ns => exact (show RepP X g1.G u (.scr ns) by rw [eG]; exact r')
          | own j => exact r'
          | fresh c =>
            obtain ⟨a, ea, na, oa, q⟩ := r'
            refine ⟨a, ea, by rw [eG]; exact na, fun z => ?_, by rw [eG]; exact q⟩
            rcases (eO a).mp z with z | ⟨hw, z⟩
            · exact oa z
            · exact k hw 0 u (.fresh c) rfl rfl rfl (by rw [z, ea])
      exact this t n
def parS (is : List (Nat × Bool)) (sa : AS) : SS := fun ρ => toS (sa ρ) fun ws ρ => match storeAll is ws ρ with
  | some ρ' => some (.nx ρ')
  | none => none
theorem RepWs.length {g : Gh} {σ : L2.St} {H₀ H : Hp} {vs : List V} {ws : List W} (h : RepWs X g σ H₀ H vs ws) : vs.length = ws.length := by
  induction h with
  | nil => rfl
  | cons _ _ _ _ ih => simp [ih]
theorem storeAll_len : ∀ {is : List (Nat × Bool)} {ws : List W} {ρ ρ' : Env'}, storeAll is ws ρ = some ρ' → is.length = ws.length
  | [], [], _, _, _ => rfl
  | [], _ :: _, _, _, h => by cases h
  | _ :: _, [], _, _, h => by cases h
  | (i, ow) :: is, w :: ws, ρ, ρ', h => by
    unfold storeAll at h
    cases e : storeW ow i w ρ with
    | none => rw [e] at h; cases h
    | some ρ1 => rw [e] at h; simp [storeAll_len h]
theorem len2 {α : Type} : ∀ {l : List α}, l.length = 2 → ∃ a b, l = [a, b]
  | [a, b], _ => ⟨a, b, rfl⟩
theorem len3 {α : Type} : ∀ {l : List α}, l.length = 3 → ∃ a b c, l = [a, b, c]
  | [a, b, c], _ => ⟨a, b, c, rfl⟩
/-- a, b = x, y with plain local names -/
theorem okPar {i j : Nat} {o1 o2 : Bool} {x y : Str} {a b : Expr} {sa : AS} {px py pt pos : Pos} {kt k2 pt2} (hc : X.calm = true) (hN : X.N.Nodup) (hi : X.N[i]? = some x) (hj : X.N[j]? = some y) (hij : i ≠ j)
    (hx : X.env.scope.names.lookup x = some .local) (hy : X.env.scope.names.lookup y = some .local) (ha : OkA X Wx [a, b] sa)
    (hw : swappedStores [.Tuple [.Name x px, .Name y py] kt pt] (.Tuple [a, b] k2 pt2) X.env = pure (some [x, y]))
    (hs : swapsWithSole [.Tuple [.Name x px, .Name y py] kt pt] (.Tuple [a, b] k2 pt2) pos.line X.env = pure false := by rfl) :
    OkS X Wx (.Assign [.Tuple [.Name x px, .Name y py] kt pt] (.Tuple [a, b] k2 pt2) pos) (parS [(i, o1), (j, o2)] sa) := by
  obtain ⟨t, p, q⟩ := ha
  refine ⟨_, ps_par hc hN hi hj hij hx hy p hw hs, fun g σ H ρ E S h => q g σ H ρ _ S (PostS.bind h ?_)⟩
  intro ws ρ1 g1 H1 vs _ e1 S1 r1 h1
  cases e : storeAll [(i, o1), (j, o2)] ws ρ1 with
  | none => rw [e] at h1; exact h1.elim
  | some ρ2 =>
    rw [e] at h1
    have hl := storeAll_len e
    obtain ⟨g2, x2, S2⟩ := SR.storeAll S.ea e1 S1 r1 e
    have hv := r1.length
    obtain ⟨v, w, rfl⟩ := len2 (show vs.length = 2 by rw [hv, ← hl]; rfl)
    exact ⟨v, w, rfl, h1 g2 _ H1 x2 S2⟩
theorem okPar3 {i j l : Nat} {o1 o2 o3 : Bool} {x y z : Str} {a b c : Expr} {sa : AS} {px py pz pt pos : Pos} {kt k2 pt2} (hc : X.calm = true) (hN : X.N.Nodup) (hi : X.N[i]? = some x) (hj : X.N[j]? = some y) (hk : X.N[l]? = some z) (hij : i ≠ j) (hil : i ≠ l) (hjl : j ≠ l)
    (hx : X.env.scope.names.lookup x = some .local) (hy : X.env.scope.names.lookup y = some .local) (hz : X.env.scope.names.lookup z = some .local) (ha : OkA X Wx [a, b, c] sa)
    (hw : swappedStores [.Tuple [.Name x px, .Name y py, .Name z pz] kt pt] (.Tuple [a, b, c] k2 pt2) X.env = pure (some [x, y, z]))
    (hs : swapsWithSole [.Tuple [.Name x px, .Name y py, .Name z pz] kt pt] (.Tuple [a, b, c] k2 pt2) pos.line X.env = pure false := by rfl) :
    OkS X Wx (.Assign [.Tuple [.Name x px, .Name y py, .Name z pz] kt pt] (.Tuple [a, b, c] k2 pt2) pos) (parS [(i, o1), (j, o2), (l, o3)] sa) := by
  obtain ⟨t, p, q⟩ := ha
  refine ⟨_, ps_par3 hc hN hi hj hk hij hil hjl hx hy hz p hw hs, fun g σ H ρ E S h => q g σ H ρ _ S (PostS.bind h ?_)⟩
  intro ws ρ1 g1 H1 vs _ e1 S1 r1 h1
  cases e : storeAll [(i, o1), (j, o2), (l, o3)] ws ρ1 with
  | none => rw [e] at h1; exact h1.elim
  | some ρ2 =>
    rw [e] at h1
    have hl := storeAll_len e
    obtain ⟨g2, x2, S2⟩ := SR.storeAll S.ea e1 S1 r1 e
    have hv := r1.length
    obtain ⟨u, v, w, rfl⟩ := len3 (show vs.length = 3 by rw [hv, ← hl]; rfl)
    exact ⟨u, v, w, rfl, h1 g2 _ H1 x2 S2⟩
end
end Py

namespace Py
open PySem PySem.Spec PyProof.Rows L2
section
variable (X : Cx) (Wx : WX)
/-! ### targets -/
abbrev TgF := D → Env' → Option O
abbrev TgsF := List D → Env' → Option O
def TrG (t : TG) (f : TgF) : Prop := ∀ g σ H ρ v d E, SR X g σ H ρ → Rep X.K g.G v d → PostS X Wx g H (f d ρ) E → t v σ H E.nx
def TrGs (t : TGs) (f : TgsF) : Prop := ∀ g σ H ρ vs ds E, SR X g σ H ρ → RepAll X.K g.G vs ds → PostS X Wx g H (f ds ρ) E → t vs σ H E.nx
/-- only names are stored: ends are nx -/
def OkG (e : Expr) (f : TgF) : Prop := ∃ t, PG X e t ∧ TrG X Wx t f
def OkGs (es : List Expr) (f : TgsF) : Prop := ∃ t, PGs X es t ∧ TrGs X Wx t f
end
section
variable {X : Cx} {Wx : WX}
def nmG (i : Nat) : TgF := fun d ρ => match storeW false i (.dat d) ρ with
  | some ρ' => some (.nx ρ')
  | none => none
theorem okG_name {i : Nat} {x : Str} {pos : Pos} (hN : X.N.Nodup) (hi : X.N[i]? = some x) (hx : Loc X.env.scope x) (hf : X.fn x = true ∨ X.env.scope.names.lookup x = some .local := by first | exact .inl rfl | exact .inr rfl | assumption) :
    OkG X Wx (.Name x pos) (nmG i) := by
  refine ⟨_, pg_name hN hi hx hf, fun g σ H ρ v d E S r h => ?_⟩
  unfold nmG at h
  cases e : storeW false i (.dat d) ρ with
  | none => rw [e] at h; exact h.elim
  | some ρ' =>
    rw [e] at h
    obtain ⟨g2, x2, S2, _⟩ := SR.store (w := .dat d) (Ext.refl g H) S r FreshIn.dat e S.ea
    exact h g2 _ H x2 S2
def nilG : TgsF := fun ds ρ => match ds with
  | [] => some (.nx ρ)
  | _ => none
def consG (f : TgF) (r : TgsF) : TgsF := fun ds ρ => match ds with
  | d :: ds => seqS (f d) (r ds) ρ
  | [] => none
theorem okGs_nil : OkGs X Wx [] nilG := by
  refine ⟨_, pgs_nil, fun g σ H ρ vs ds E S r h => ?_⟩
  cases r with
  | nil => exact ⟨rfl, h g σ H (Ext.refl _ _) S⟩
  | cons _ _ => exact h.elim
theorem okGs_cons {e : Expr} {es : List Expr} {f : TgF} {r : TgsF} (he : OkG X Wx e f) (hr : OkGs X Wx es r) (hs : (assignEach (e :: es) X.env).map (·.2) = assign e X.env :: (assignEach es X.env).map (·.2) := by rfl) : OkGs X Wx (e :: es) (consG f r) := by
  obtain ⟨t, p, q⟩ := he
  obtain ⟨t', p', q'⟩ := hr
  refine ⟨_, pgs_cons p p' hs, fun g σ H ρ vs ds E S r h => ?_⟩
  cases r with
  | nil => exact h.elim
  | cons r1 r2 =>
    rename_i v vs d ds
    refine ⟨v, vs, rfl, q g σ H ρ v d { E with nx := fun σ' H' => t' vs σ' H' E.nx } S r1 ?_⟩
    have h : PostS X Wx g H (seqS (f d) (r ds) ρ) E := h
    unfold seqS at h
    cases e : f d ρ with
    | none => rw [e] at h; exact h
    | some o =>
      rw [e] at h
      cases o with
      | nx ρ' => exact fun g' σ' H' x S' => q' g' σ' H' ρ' vs ds E S' (r2.mono x.up) (PostS.shift x h)
      | ret w ρ' => exact h
      | brk ρ' => exact h
      | ct ρ' => exact h
      | ex c d ρ' => exact h
def tupG (n : Nat) (r : TgsF) : TgF := fun d ρ => match d with
  | .tuple ds => if ds.length = n then r ds ρ else none
  | _ => none
theorem okG_tup {es : List Expr} {k : Nat} {pos : Pos} {n : Nat} {r : TgsF} (hc : X.calm = true) (h : OkGs X Wx es r) (hn : (assignEach es X.env).length = n := by rfl) (hst : (assignEach es X.env).findIdx? (·.1) = none := by rfl) :
    OkG X Wx (.Tuple es k pos) (tupG n r) := by
  obtain ⟨t, p, q⟩ := h
  refine ⟨_, pg_tup hc p hn hst, fun g σ H ρ v d E S rr h => ?_⟩
  cases rr with
  | tup ha r1 =>
    rename_i a xs ds
    unfold tupG at h
    by_cases hl : ds.length = n
    · simp only [hl, if_true] at h
      exact ⟨a, xs, rfl, .of (S.sub.1 _ _ ha rfl), by rw [r1.length]; exact hl, q g σ H ρ xs ds E S r1 h⟩
    · simp only [hl, if_false] at h
      exact h.elim
  | _ => exact h.elim
/-- target = value -/
def asgGS (f : TgF) (s : ES) : SS := fun ρ => toS (s ρ) fun w ρ => match w with
  | .dat d => f d ρ
  | _ => none
theorem okAsgG {tg e : Expr} {f : TgF} {s : ES} {pos : Pos} (he : OkE X Wx e s) (hg : OkG X Wx tg f) (hs : swapsWithSole [tg] e pos.line X.env = pure false := by rfl) (hw : swappedStores [tg] e X.env = pure none := by rfl)
    (h1 : (assignEach [tg] X.env).map (·.2) = [assign tg X.env] := by rfl) : OkS X Wx (.Assign [tg] e pos) (asgGS f s) := by
  obtain ⟨t, p, q⟩ := he
  obtain ⟨t', p', q'⟩ := hg
  refine ⟨_, ps_asg p p' hs hw h1, fun g σ H ρ E S h => q g σ H ρ _ S (PostS.bind h ?_)⟩
  intro w ρ1 g1 H1 x _ e1 S1 r1 h1
  cases w with
  | dat d => exact q' g1 σ H1 ρ1 x d E S1 r1.1 (PostS.shift e1 h1)
  | _ => exact h1.elim
/-- (a, b, ..) = (x, y, ..) by way of the tuple -/
def gNames : List Nat → TGs
  | [] => gNil
  | i :: is => gCons (gName i) (gNames is)
theorem gNames_ok : ∀ {is : List Nat} {vs : List V} {σ : L2.St} {H : Hp} {Q : L2.St → Hp → Prop}, is.length = vs.length → Q (setAll is vs σ) H → gNames is vs σ H Q
  | [], [], _, _, _, _, h => ⟨rfl, h⟩
  | i :: is, v :: vs, σ, H, Q, hl, h => ⟨v, vs, rfl, gNames_ok (by simpa using hl) h⟩
theorem okParT {ts es : List Expr} {k k2 : Nat} {p1 p2 pos : Pos} {sa : AS} {is : List (Nat × Bool)} {n : Nat} (hc : X.calm = true) (ha : OkA X Wx es sa) (hg : PGs X ts (gNames (is.map (·.1))))
    (hi : is.length = n) (hn : (assignEach ts X.env).length = n := by rfl) (hst : (assignEach ts X.env).findIdx? (·.1) = none := by rfl)
    (hs : swapsWithSole [.Tuple ts k p1] (.Tuple es k2 p2) pos.line X.env = pure false := by rfl) (hw : swappedStores [.Tuple ts k p1] (.Tuple es k2 p2) X.env = pure none := by rfl)
    (h1 : (assignEach [.Tuple ts k p1] X.env).map (·.2) = [assign (.Tuple ts k p1) X.env] := by rfl) (hz : n ≤ 1000 := by decide) : OkS X Wx (.Assign [.Tuple ts k p1] (.Tuple es k2 p2) pos) (parS is sa) := by
  obtain ⟨t, p, q⟩ := ha
  refine ⟨_, ps_asg (pe_tup p) (pg_tup hc hg hn hst) hs hw h1, fun g σ H ρ E S h => q g σ H ρ _ S (PostS.bind h ?_)⟩
  intro ws ρ1 g1 H1 vs _ e1 S1 r1 h1
  cases e : storeAll is ws ρ1 with
  | none => rw [e] at h1; exact h1.elim
  | some ρ2 =>
    rw [e] at h1
    have hl := storeAll_len e
    have hv := r1.length
    obtain ⟨g2, x2, S2⟩ := SR.storeAll S.ea e1 S1 r1 e
    refine ⟨Nat.le_of_lt (small1000 (by omega)), fun a na => ⟨a, vs, rfl, .of upd_same, by omega, gNames_ok (by simp; omega) ?_⟩⟩
    obtain ⟨x3, S3⟩ := S2.lay (o := .tup vs) na
    exact h1 g2 _ _ (x2.trans x3) S3

/-! ### what is walked -/
structure IterOk (X : Cx) (J : It) (G0 : Hp) (ds : List D) : Prop where
  goes : ∀ i H, i < ds.length → Sm G0 H → J.go i H
  stops : ∀ H, Sm G0 H → J.stop ds.length H
  yields : ∀ i g σ H ρ x H', i < ds.length → Same G0 g.G → SR X g σ H ρ → J.yld i H x H' → ∃ g' d, Ext g H g' H' ∧ SR X g' σ H' ρ ∧ ds[i]? = some d ∧ Rep X.K g'.G x d
def relI (X : Cx) : Hp → Gh → Hp → It → List D → Prop := fun _ g' _ J ds => IterOk X J g'.G ds
abbrev IS := Env' → Option (R (List D))
theorem later_I : Later (relI X) := fun _ _ _ _ _ _ _ _ _ h => h
def OkI (X : Cx) (Wx : WX) (tg iter : Expr) (s : IS) : Prop := ∃ wi, PI X tg iter wi ∧ ∀ g σ H ρ Q, SR X g σ H ρ → PostG X Wx (relI X) g σ H (s ρ) Q → wi σ H Q
/-- a list or a tuple -/
def seqI (s : ES) : IS := fun ρ => bnd (s ρ) fun w ρ => match w with
  | .dat (.list ds) => some (.ok ds ρ)
  | .dat (.tuple ds) => some (.ok ds ρ)
  | _ => none
theorem iter_list {a : Addr} {vs : List V} {ds : List D} {G0 : Hp} (h : G0 a = some (.lst vs)) (r : RepAll X.K G0 vs ds) : IterOk X (Itl X.K a) G0 ds where
  goes := fun i H hi s => by
    have hl := r.length
    exact ⟨vs, vs[i]'(by omega), .of (s _ _ h rfl), by simp [show i < vs.length by omega]⟩
  stops := fun H s => ⟨vs, .of (s _ _ h rfl), by rw [r.length]; exact Nat.le_refl _⟩
  yields := fun i g σ H ρ x H' hi s S y => by
    obtain ⟨e, y⟩ := y
    subst e
    have hx := y vs (.of (S.sub.1 _ _ (s _ _ h) rfl))
    obtain ⟨d, hd, rd⟩ := r.get' hx
    exact ⟨g, d, Ext.refl _ _, S, hd, rd.mono s⟩
theorem iter_tup {a : Addr} {vs : List V} {ds : List D} {G0 : Hp} (h : G0 a = some (.tup vs)) (r : RepAll X.K G0 vs ds) : IterOk X (Itt X.K a) G0 ds where
  goes := fun i H hi s => by
    have hl := r.length
    exact ⟨vs, vs[i]'(by omega), .of (s _ _ h rfl), by simp [show i < vs.length by omega]⟩
  stops := fun H s => ⟨vs, .of (s _ _ h rfl), by rw [r.length]; exact Nat.le_refl _⟩
  yields := fun i g σ H ρ x H' hi s S y => by
    obtain ⟨e, y⟩ := y
    subst e
    have hx := y vs (.of (S.sub.1 _ _ (s _ _ h) rfl))
    obtain ⟨d, hd, rd⟩ := r.get' hx
    exact ⟨g, d, Ext.refl _ _, S, hd, rd.mono s⟩
def iSeq (K : PySem.W.Frag) (tl : TE) : TI := fun σ H R => tl σ H fun x H1 => ∃ a, x = .ref a ∧ (((∃ xs, SqL K H1 a xs) ∧ R (Itl K a) H1) ∨ ((∃ xs, SqT K H1 a xs) ∧ R (Itt K a) H1))
/-- from a value already reckoned: the library's rule for a list, for a tuple -/
theorem pi_seq {tg l : Expr} {tl : TE} (hl : PE X l tl) : PI X tg l (iSeq X.K tl) := by
  refine ⟨fun pins s σ H R I h => ?_⟩
  refine thn (hl.run pins s σ H _ I h) fun v s1 hq => ?_
  obtain ⟨x, H1, I1, r1, a, e, q⟩ := hq
  subst e
  cases r1
  have last : ∀ {b : Addr}, b ∈ [s1.heap.objs.size] → FpOk X pins H1 b := fun {b} hb => by
    rw [List.mem_singleton.mp hb]
    exact I1.fpOk (Nat.le_refl _) (I1.hok.fresh (Nat.le_refl _))
  rcases q with ⟨⟨xs, hx⟩, q⟩ | ⟨⟨xs, hx⟩, q⟩
  · obtain ⟨its, rv, pl, _⟩ := I1.list hx
    exact wpAny_pyIter_list pl.isList ⟨s1.heap.objs.size, _, _, _, H1, rfl, I1.kept (t' := s1.toks) fun b o e => Heap.get?_push_of_some _ e, turn_list a _, ⟨_, Heap.get?_push_size _ rfl, rfl, rfl⟩, fun b hb => last hb, q⟩
  · obtain ⟨its, rv, pl, _⟩ := I1.tuple hx
    exact wpAny_pyIter_tuple (show s1.heap.IsTuple a its.toArray from pl) ⟨s1.heap.objs.size, _, _, _, H1, rfl, I1.kept (t' := s1.toks) fun b o e => Heap.get?_push_of_some _ e, turn_tuple a _, ⟨_, Heap.get?_push_size _ rfl, rfl, rfl⟩, fun b hb => last hb, q⟩
theorem okI_seq {tg l : Expr} {s : ES} (h : OkE X Wx l s) : OkI X Wx tg l (seqI s) := by
  obtain ⟨t, p, q⟩ := h
  refine ⟨_, pi_seq p, fun g σ H ρ Q S h => q g σ H ρ _ S (PostG.bind later_I h ?_)⟩
  intro w ρ1 g1 H1 x _ e1 S1 r1 h1
  cases w with
  | dat d =>
    cases d with
    | list ds =>
      obtain ⟨r, _⟩ := r1
      cases r with
      | lst ha r => exact ⟨_, rfl, .inl ⟨⟨_, .of (S1.sub.1 _ _ ha rfl)⟩, h1 g1 H1 _ (Ext.refl _ _) S1 (iter_list ha r)⟩⟩
    | tuple ds =>
      obtain ⟨r, _⟩ := r1
      cases r with
      | tup ha r => exact ⟨_, rfl, .inr ⟨⟨_, .of (S1.sub.1 _ _ ha rfl)⟩, h1 g1 H1 _ (Ext.refl _ _) S1 (iter_tup ha r)⟩⟩
    | _ => exact h1.elim
  | _ => exact h1.elim
/-- range(n), range(a, b) -/
def rngD (lo : Int) (n : Nat) : List D := (List.range n).map fun i => PyData.int (lo + (i : Nat))
theorem iter_range {lo : Int} {n : Nat} {G0 : Hp} : IterOk X (Itr lo n) G0 (rngD lo n) where
  goes := fun i H hi _ => (show i < n by simpa [rngD] using hi)
  stops := fun H _ => by show n ≤ (rngD lo n).length; simp [rngD]
  yields := fun i g σ H ρ x H' hi s S y => by
    obtain ⟨e, y⟩ := y
    subst e y
    have hi : i < n := by simpa [rngD] using hi
    exact ⟨g, .int (lo + (i : Nat)), Ext.refl _ _, S, by simp [rngD, hi], .int _⟩
def big : Int := 4611686018427387904
def rng1F (ws : List W) (ρ : Env') : Option (R (List D)) := match ws with
  | [.dat (.int j)] => if -big ≤ j ∧ j < big then some (.ok (rngD 0 j.toNat) ρ) else none
  | _ => none
def rng2F (ws : List W) (ρ : Env') : Option (R (List D)) := match ws with
  | [.dat (.int i), .dat (.int j)] => if (-big ≤ i ∧ i < big) ∧ (-big ≤ j ∧ j < big) then some (.ok (rngD i (j - i).toNat) ρ) else none
  | _ => none
def rngI (F : List W → Env' → Option (R (List D))) (sa : AS) : IS := fun ρ => bnd (sa ρ) F
theorem RepWs.int1 {g : Gh} {σ : L2.St} {H₀ H : Hp} {vs : List V} {i : Int} (h : RepWs X g σ H₀ H vs [.dat (.int i)]) : vs = [.int i] := by
  cases h with
  | cons r _ t _ => cases t; cases (show Rep X.K g.G _ (.int i) from r); rfl
theorem RepWs.int2 {g : Gh} {σ : L2.St} {H₀ H : Hp} {vs : List V} {i j : Int} (h : RepWs X g σ H₀ H vs [.dat (.int i), .dat (.int j)]) : vs = [.int i, .int j] := by
  cases h with
  | cons r _ t _ =>
    cases (show Rep X.K g.G _ (.int i) from r)
    rw [t.int1]
theorem okI_range1 {tg a : Expr} {sa : AS} {p pos : Pos} (hg : Gl X "range") (hm : X.mg "range" = none) (ha : OkA X Wx [a] sa) (hs : starEach [a] X.env = [(false, eval a X.env)] := by rfl) : OkI X Wx tg (.Call (.Name "range" p) [a] [] pos) (rngI rng1F sa) := by
  obtain ⟨t, p, q⟩ := ha
  refine ⟨_, pi_range1 hg hm p hs, fun g σ H ρ Q S h => q g σ H ρ _ S (PostG.bind later_I h ?_)⟩
  intro ws ρ1 g1 H1 vs _ e1 S1 r1 h1
  unfold rng1F at h1
  split at h1
  · rename_i j _
    by_cases hb : -big ≤ j ∧ j < big
    · rw [if_pos hb] at h1
      unfold big at hb
      exact ⟨j, r1.int1, by omega, by omega, h1 g1 H1 _ (Ext.refl _ _) S1 iter_range⟩
    · rw [if_neg hb] at h1; exact h1.elim
  · exact h1.elim
theorem okI_range2 {tg a b : Expr} {sa : AS} {p pos : Pos} (hg : Gl X "range") (hm : X.mg "range" = none) (ha : OkA X Wx [a, b] sa) (hs : starEach [a, b] X.env = [(false, eval a X.env), (false, eval b X.env)] := by rfl)
    (hs2 : starEach [b] X.env = [(false, eval b X.env)] := by rfl) : OkI X Wx tg (.Call (.Name "range" p) [a, b] [] pos) (rngI rng2F sa) := by
  obtain ⟨t, p, q⟩ := ha
  refine ⟨_, pi_range2 hg hm p hs hs2, fun g σ H ρ Q S h => q g σ H ρ _ S (PostG.bind later_I h ?_)⟩
  intro ws ρ1 g1 H1 vs _ e1 S1 r1 h1
  unfold rng2F at h1
  split at h1
  · rename_i i j _
    by_cases hb : (-big ≤ i ∧ i < big) ∧ (-big ≤ j ∧ j < big)
    · rw [if_pos hb] at h1
      unfold big at hb
      exact ⟨i, j, r1.int2, ⟨by omega, by omega, by omega, by omega⟩, h1 g1 H1 _ (Ext.refl _ _) S1 iter_range⟩
    · rw [if_neg hb] at h1; exact h1.elim
  · exact h1.elim

/-! ### for -/
def forL (f : TgF) (b : SS) : List D → Env' → Option O
  | [], ρ => some (.nx ρ)
  | d :: ds, ρ => match seqS (f d) b ρ with
    | some (.nx ρ') => forL f b ds ρ'
    | some (.ct ρ') => forL f b ds ρ'
    | some (.brk ρ') => some (.nx ρ')
    | o => o
def forS (s : IS) (f : TgF) (b : SS) : SS := fun ρ => toS (s ρ) fun ds ρ => forL f b ds ρ
/-- a target ends at its next, or never -/
def NxOnly (f : TgF) : Prop := ∀ d ρ o, f d ρ = some o → ∃ ρ', o = .nx ρ'
theorem nmG_nx (i : Nat) : NxOnly (nmG i) := fun d ρ o h => by
  unfold nmG at h
  split at h
  · cases h; exact ⟨_, rfl⟩
  · cases h
theorem okFor {tg iter : Expr} {body : List Stmt} {s : IS} {f : TgF} {b : SS} {pos : Pos} (hp : PassesOwn (model X.prog X.w) X.A X.env X.xe) (hc : X.calm = true) (hi : OkI X Wx tg iter s) (hg : OkG X Wx tg f) (hb : OkSs X Wx body b)
    (hf : NxOnly f) (hs : ∀ x, foldedSetIterable iter X.env x = pure x := by intro _; rfl) : OkS X Wx (.For tg iter body [] pos) (forS s f b) := by
  obtain ⟨wi, p, q⟩ := hi
  obtain ⟨tg', pg, qg⟩ := hg
  obtain ⟨tb, pb, qb⟩ := hb
  refine ⟨_, ps_for hp hc p pg pb hs, fun g σ H ρ E S h => q g σ H ρ _ S (PostS.bind h ?_)⟩
  intro ds ρ1 g1 H1 J _ e1 S1 r1 h1
  refine ⟨fun i m σ H => m = ds.length - i ∧ i ≤ ds.length ∧ ∃ g2 ρ2, SR X g2 σ H ρ2 ∧ Same g1.G g2.G ∧ PostS X Wx g2 H (forL f b (ds.drop i) ρ2) E, ⟨ds.length, by simp, Nat.zero_le _, g1, ρ1, S1, Same.refl _, PostS.shift e1 (by simpa using h1)⟩, ?_⟩
  rintro i m σ2 H2 ⟨rfl, hi, g2, ρ2, S2, s2, h2⟩
  by_cases hlt : i < ds.length
  · refine .inr ⟨r1.goes i H2 hlt (smT s2 S2.sub.1), fun σ H => i + 1 ≤ ds.length ∧ ∃ g2 ρ2, SR X g2 σ H ρ2 ∧ Same g1.G g2.G ∧ PostS X Wx g2 H (forL f b (ds.drop (i + 1)) ρ2) E, fun σ' H' z => ⟨ds.length - (i + 1), by omega, rfl, z⟩, fun x H3 y => ?_⟩
    obtain ⟨g3, d, e3, S3, hd, rd⟩ := r1.yields i g2 σ2 H2 ρ2 x H3 hlt s2 S2 y
    have h3 := PostS.shift e3 h2
    have hdr : ds.drop i = d :: ds.drop (i + 1) := by
      obtain ⟨h', e'⟩ := List.getElem?_eq_some_iff.mp hd
      rw [← e', List.drop_eq_getElem_cons h']
    rw [hdr] at h3
    unfold forL seqS at h3
    let E1 : Ends := { E with nx := fun σ' H' => tb { E with nx := fun σ H => i + 1 ≤ ds.length ∧ ∃ g2 ρ2, SR X g2 σ H ρ2 ∧ Same g1.G g2.G ∧ PostS X Wx g2 H (forL f b (ds.drop (i + 1)) ρ2) E, ct := fun σ H => i + 1 ≤ ds.length ∧ ∃ g2 ρ2, SR X g2 σ H ρ2 ∧ Same g1.G g2.G ∧ PostS X Wx g2 H (forL f b (ds.drop (i + 1)) ρ2) E, bk := E.nx } σ' H' }
    refine qg g3 σ2 H3 ρ2 x d E1 S3 rd ?_
    cases ef : f d ρ2 with
    | none => rw [ef] at h3; exact h3
    | some o =>
      obtain ⟨ρ3, rfl⟩ := hf d ρ2 o ef
      rw [ef] at h3
      intro g4 σ4 H4 e4 S4
      refine qb g4 σ4 H4 ρ3 _ S4 ?_
      have h4 := PostS.shift e4 h3
      cases eb : b ρ3 with
      | none => simp only [eb] at h4; exact h4
      | some o =>
        simp only [eb] at h4
        cases o with
        | nx ρ5 => exact fun g5 σ5 H5 e5 S5 => ⟨hlt, g5, ρ5, S5, ((s2.trans e3.up).trans e4.up).trans e5.up, PostS.shift e5 h4⟩
        | ct ρ5 => exact fun g5 σ5 H5 e5 S5 => ⟨hlt, g5, ρ5, S5, ((s2.trans e3.up).trans e4.up).trans e5.up, PostS.shift e5 h4⟩
        | brk ρ5 => exact fun g5 σ5 H5 e5 S5 => h4 g5 σ5 H5 e5 S5
        | ret w ρ5 => exact h4
        | ex c d ρ5 => exact h4
  · have e : i = ds.length := by omega
    subst e
    refine .inl ⟨r1.stops H2 (smT s2 S2.sub.1), ?_⟩
    rw [List.drop_length] at h2
    exact h2 g2 σ2 H2 (Ext.refl _ _) S2
/-! ### while -/
def whileL (c : BS) (b : SS) : Nat → Env' → Option O
  | 0, _ => none
  | n + 1, ρ => toS (c ρ) fun k ρ => if k then (match b ρ with
    | some (.nx ρ') => whileL c b n ρ'
    | some (.ct ρ') => whileL c b n ρ'
    | some (.brk ρ') => some (.nx ρ')
    | o => o) else some (.nx ρ)
theorem okWhile {c : Expr} {body : List Stmt} {t : BS} {b : SS} {pos : Pos} (n : Nat) (hp : PassesOwn (model X.prog X.w) X.A X.env X.xe) (hc : OkT X Wx c t) (hb : OkSs X Wx body b) : OkS X Wx (.While c body [] pos) (whileL t b n) := by
  obtain ⟨tc, pc, qc⟩ := hc
  obtain ⟨tb, pb, qb⟩ := hb
  refine ⟨_, ps_while hp pc pb, fun g σ H ρ E S h => ?_⟩
  refine ⟨fun m σ H => ∃ g2 ρ2, SR X g2 σ H ρ2 ∧ PostS X Wx g2 H (whileL t b m ρ2) E, ⟨n, g, ρ, S, h⟩, ?_⟩
  rintro m σ2 H2 ⟨g2, ρ2, S2, h2⟩
  cases m with
  | zero => exact h2.elim
  | succ m =>
    unfold whileL at h2
    refine qc g2 σ2 H2 ρ2 _ S2 (PostS.bind h2 ?_)
    intro k ρ3 g3 H3 x _ e3 S3 r3 h3
    cases r3
    cases k with
    | false =>
      rw [if_neg Bool.false_ne_true] at h3 ⊢
      exact h3 g3 σ2 H3 e3 S3
    | true =>
      rw [if_pos rfl] at h3 ⊢
      refine ⟨fun σ H => ∃ g2 ρ2, SR X g2 σ H ρ2 ∧ PostS X Wx g2 H (whileL t b m ρ2) E, fun σ' H' z => ⟨m, Nat.lt_succ_self _, z⟩, ?_⟩
      refine qb g3 σ2 H3 ρ3 _ S3 ?_
      have h4 := PostS.shift e3 h3
      cases eb : b ρ3 with
      | none => simp only [eb] at h4; exact h4
      | some o =>
        simp only [eb] at h4
        cases o with
        | nx ρ5 => exact fun g5 σ5 H5 e5 S5 => ⟨g5, ρ5, S5, PostS.shift e5 h4⟩
        | ct ρ5 => exact fun g5 σ5 H5 e5 S5 => ⟨g5, ρ5, S5, PostS.shift e5 h4⟩
        | brk ρ5 => exact fun g5 σ5 H5 e5 S5 => h4 g5 σ5 H5 e5 S5
        | ret w ρ5 => exact h4
        | ex c d ρ5 => exact h4
end
end Py

namespace Py
open PySem PySem.Spec PyProof.Rows L2
/-! ### comprehensions -/
def wipeE (ρ : Env') : List Nat → Env'
  | [] => ρ
  | v :: vs => (wipeE ρ vs).set v none
def keepE (ρ0 ρ : Env') : List Nat → Env'
  | [] => ρ
  | v :: vs => (keepE ρ0 ρ vs).set v (ρ0.getD v none)
def freeE (ρ : Env') (vs : List Nat) : Bool := vs.all fun v => match ρ.getD v none with
  | none => true
  | some (.val _) => true
  | _ => false
theorem wipe_set_in {i : Nat} {x : Option V} : ∀ {vs : List Nat} {σ : L2.St}, i ∈ vs → wipe (σ.set i x) vs = wipe σ vs
  | v :: vs, σ, h => by
    unfold wipe
    by_cases e : i = v
    · subst e
      by_cases hv : i ∈ vs
      · rw [wipe_set_in hv]
      · have : ∀ {us : List Nat}, i ∉ us → wipe (σ.set i x) us = (wipe σ us).set i x := by
          intro us
          induction us with
          | nil => intro _; rfl
          | cons u us ih =>
            intro hu
            simp only [List.mem_cons, not_or] at hu
            unfold wipe
            rw [ih hu.2, List.set_comm _ _ hu.1]
        rw [this hv, List.set_set]
    · have hv : i ∈ vs := by
        rcases List.mem_cons.mp h with z | z
        · exact absurd z e
        · exact z
      rw [wipe_set_in hv]
theorem wipe_setAll : ∀ {is : List Nat} {xs : List V} {σ : L2.St} {vs : List Nat}, (∀ i ∈ is, i ∈ vs) → wipe (setAll is xs σ) vs = wipe σ vs
  | [], _, _, _, _ => rfl
  | _ :: _, [], _, _, _ => rfl
  | i :: is, x :: xs, σ, vs, h => by
    show wipe (setAll is xs (σ.set i (some x))) vs = wipe σ vs
    rw [wipe_setAll fun j hj => h j (List.mem_cons_of_mem _ hj), wipe_set_in (h i List.mem_cons_self)]
section
variable {X : Cx} {Wx : WX}
theorem SR.clear {g : Gh} {σ : L2.St} {H : Hp} {ρ : Env'} (S : SR X g σ H ρ) (i : Nat) : SR X g (σ.set i none) H (ρ.set i none) := by
  have S1 := S.forget i
  have old : ∀ {j : Nat} {s : Slot}, (ρ.set i none)[j]? = some (some s) → j ≠ i := fun {j s} h e => by
    subst e
    by_cases hi : j < ρ.length
    · rw [List.getElem?_set_self hi] at h; cases h
    · rw [List.getElem?_eq_none (by simpa using hi)] at h; cases h
  exact ⟨S.sub, by simpa using S.len, fun j s h => by rw [List.getElem?_set_ne (Ne.symm (old h))]; exact S1.slot j s h,
    fun j k s t a hjk hs ht so to hb => by
      rw [List.getElem?_set_ne (Ne.symm (old hs))] at hb
      rw [List.getElem?_set_ne (Ne.symm (old ht))]
      exact S1.dis j k s t a hjk hs ht so to hb, S.ot, S.ea⟩
theorem SR.wipe {g : Gh} {σ : L2.St} {H : Hp} {ρ : Env'} (S : SR X g σ H ρ) : ∀ vs : List Nat, SR X g (wipe σ vs) H (wipeE ρ vs)
  | [] => S
  | v :: vs => (SR.wipe S vs).clear v
theorem wipe_at {σ : L2.St} {i : Nat} : ∀ {vs : List Nat}, i ∉ vs → (wipe σ vs)[i]? = σ[i]?
  | [], _ => rfl
  | v :: vs, h => by
    simp only [List.mem_cons, not_or] at h
    unfold L2.wipe
    rw [List.getElem?_set_ne (Ne.symm h.1), wipe_at h.2]
theorem keepE_len {ρ0 ρ : Env'} : ∀ {vs : List Nat}, (keepE ρ0 ρ vs).length = ρ.length
  | [] => rfl
  | v :: vs => by unfold keepE; rw [List.length_set, keepE_len]
theorem keepE_at {ρ0 ρ : Env'} {i : Nat} : ∀ {vs : List Nat}, i ∉ vs → (keepE ρ0 ρ vs)[i]? = ρ[i]?
  | [], _ => rfl
  | v :: vs, h => by
    simp only [List.mem_cons, not_or] at h
    unfold keepE
    rw [List.getElem?_set_ne (Ne.symm h.1), keepE_at h.2]
theorem keepE_in {ρ0 ρ : Env'} {i : Nat} (hi : i < ρ.length) : ∀ {vs : List Nat}, i ∈ vs → (keepE ρ0 ρ vs)[i]? = some (ρ0.getD i none)
  | v :: vs, h => by
    unfold keepE
    by_cases e : v = i
    · subst e
      rw [List.getElem?_set_self (by rw [keepE_len]; exact hi)]
    · rw [List.getElem?_set_ne e]
      rcases List.mem_cons.mp h with z | z
      · exact absurd z.symm e
      · exact keepE_in hi z
/-- behind a comprehension its own names are what they were -/
theorem SR.keep {g0 g : Gh} {σ : L2.St} {H0 H : Hp} {ρ0 ρ : Env'} {vs : List Nat} (S0 : SR X g0 σ H0 ρ0) (up : Same g0.G g.G) (S : SR X g (L2.wipe σ vs) H ρ) (hf : freeE ρ0 vs = true) : SR X g σ H (keepE ρ0 ρ vs) := by
  have hlen : ρ.length = σ.length := by rw [← S.len, wipe_length]
  have fr : ∀ {i : Nat} {s : Slot}, i ∈ vs → (keepE ρ0 ρ vs)[i]? = some (some s) → ρ0[i]? = some (some s) ∧ s.owned = none := fun {i s} hi h => by
    have hl : i < ρ.length := by
      have := (List.getElem?_eq_some_iff.mp h).1
      rw [keepE_len] at this
      exact this
    rw [keepE_in hl hi] at h
    have h' : ρ0.getD i none = some s := Option.some.inj h
    have hf' := (List.all_eq_true.mp hf) i hi
    rw [h'] at hf'
    have hl0 : i < ρ0.length := by rw [← S0.len]; omega
    have h2 : ρ0[i]? = some (some s) := by
      rw [List.getD_eq_getElem?_getD, List.getElem?_eq_getElem hl0] at h'
      rw [List.getElem?_eq_getElem hl0]
      exact congrArg some h'
    cases s with
    | val w => exact ⟨h2, rfl⟩
    | own c => cases hf'
    | ref c => cases hf'
  refine ⟨S.sub, by rw [keepE_len]; exact hlen.symm, fun i s h => ?_, fun i j s t a hij hs ht so to ha => ?_, S.ot, S.ea⟩
  · by_cases hi : i ∈ vs
    · obtain ⟨h2, ho⟩ := fr hi h
      obtain ⟨v, h3, h4⟩ := S0.slot i s h2
      refine ⟨v, h3, ?_⟩
      cases s with
      | val w => exact RepP.mono up h4
      | own c => cases ho
      | ref c => cases ho
    · rw [keepE_at hi] at h
      obtain ⟨v, h3, h4⟩ := S.slot i s h
      rw [wipe_at hi] at h3
      exact ⟨v, h3, h4⟩
  · have hi : i ∉ vs := fun z => so (fr z hs).2
    have hj : j ∉ vs := fun z => to (fr z ht).2
    rw [keepE_at hi] at hs
    rw [keepE_at hj] at ht
    rw [← wipe_at hi] at ha
    rw [← wipe_at hj]
    exact S.dis i j s t a hij hs ht so to ha
/-- the new list of a comprehension is written -/
theorem SR.poke {g : Gh} {σ : L2.St} {H : Hp} {ρ : Env'} {p : Addr} {o : HO} (S : SR X g σ H ρ) (gp : g.G p = none) (op : ¬ g.O p) (hp : H p ≠ none) : SR X g σ (upd H p o) ρ := by
  have al : ∀ b, H b ≠ none → upd H p o b ≠ none := fun b hb => by
    by_cases e : b = p
    · subst e; rw [upd_same]; exact fun z => by cases z
    · rw [upd_ne e]; exact hb
  have keep : ∀ {a : Addr} {c : Cell}, g.O a → CellR X g.G H a c → CellR X g.G (upd H p o) a c := fun {a c} oa q => q.mono (Same.refl _) fun x hx => by rw [upd_ne (show a ≠ p from fun e => op (by rw [← e]; exact oa))]; exact hx
  refine ⟨S.sub.write fun b hb => upd_ne fun e => hb (by rw [e]; exact gp), S.len, fun i s h => ?_, S.dis, fun a oa => al a (S.ot a oa), fun a oa => al a (S.ea a oa)⟩
  obtain ⟨v, h1, h2⟩ := S.slot i s h
  refine ⟨v, h1, ?_⟩
  cases s with
  | val w => exact h2
  | own c => obtain ⟨a, e, n, oa, q, r⟩ := h2; exact ⟨a, e, n, oa, keep oa q, r⟩
  | ref c => obtain ⟨a, e, n, oa, q, r⟩ := h2; exact ⟨a, e, n, oa, keep oa q, r⟩
theorem Ext.poke {g0 g : Gh} {H0 H : Hp} {p : Addr} {o : HO} (x : Ext g0 H0 g H) (h0 : H0 p = none) : Ext g0 H0 g (upd H p o) :=
  ⟨x.up, fun b y hb nb ob => by
    obtain ⟨h1, h2, h3⟩ := x.fr b y hb nb ob
    exact ⟨by rw [upd_ne (ne_of_none hb h0)]; exact h1, h2, h3⟩, fun b hb => by
    by_cases e : b = p
    · subst e; exact absurd h0 hb
    · rw [upd_ne e]; exact x.al b hb, x.bb, x.be⟩

def WF : WX := fun _ _ _ _ => False
/-- a comprehension's target: only its own names -/
def OkGc (X : Cx) (vs : List Nat) (e : Expr) (f : TgF) : Prop := ∃ t, PG X e t ∧ ∀ g σ H ρ v d Q, SR X g σ H ρ → Rep X.K g.G v d →
  (∃ ρ', f d ρ = some (.nx ρ') ∧ ∀ g' σ' H', Ext g H g' H' → SR X g' σ' H' ρ' → L2.wipe σ' vs = L2.wipe σ vs → Q σ' H') → t v σ H Q
theorem okGc_name {i : Nat} {x : Str} {pos : Pos} (hN : X.N.Nodup) (hi : X.N[i]? = some x) (hx : Loc X.env.scope x) (hf : X.fn x = true ∨ X.env.scope.names.lookup x = some .local := by first | exact .inl rfl | exact .inr rfl | assumption) :
    OkGc X [i] (.Name x pos) (nmG i) := by
  refine ⟨_, pg_name hN hi hx hf, fun g σ H ρ v d Q S r h => ?_⟩
  obtain ⟨ρ', h, k⟩ := h
  unfold nmG at h
  cases e : storeW false i (.dat d) ρ with
  | none => rw [e] at h; cases h
  | some ρ2 =>
    rw [e] at h
    cases h
    obtain ⟨g2, x2, S2, _⟩ := SR.store (w := .dat d) (Ext.refl g H) S r FreshIn.dat e S.ea
    exact k g2 _ H x2 S2 (wipe_set_in (by simp))
def tupN (is : List Nat) : TgF := fun d ρ => match d with
  | .tuple ds => match storeAll (is.map fun i => (i, false)) (ds.map W.dat) ρ with
    | some ρ' => some (.nx ρ')
    | none => none
  | _ => none
theorem RepWs.ofAll {g : Gh} {σ : L2.St} {H0 H : Hp} : ∀ {vs : List V} {ds : List D}, RepAll X.K g.G vs ds → RepWs X g σ H0 H vs (ds.map W.dat)
  | _, _, .nil => .nil
  | _, _, .cons h r => .cons (w := .dat _) h FreshIn.dat (RepWs.ofAll r) fun z => by cases z
theorem okGc_tup {es : List Expr} {k : Nat} {pos : Pos} {is : List Nat} (hc : X.calm = true) (h : PGs X es (gNames is)) (hn : (assignEach es X.env).length = is.length := by rfl) (hst : (assignEach es X.env).findIdx? (·.1) = none := by rfl) :
    OkGc X is (.Tuple es k pos) (tupN is) := by
  refine ⟨_, pg_tup hc h hn hst, fun g σ H ρ v d Q S r z => ?_⟩
  obtain ⟨ρ', e, k⟩ := z
  unfold tupN at e
  cases r with
  | tup ha r1 =>
    rename_i a xs ds
    cases e2 : storeAll (is.map fun i => (i, false)) (ds.map W.dat) ρ with
    | none => simp only [e2] at e; cases e
    | some ρ2 =>
      simp only [e2] at e
      cases e
      have hl := storeAll_len e2
      simp only [List.length_map] at hl
      obtain ⟨g2, x2, S2⟩ := SR.storeAll (σ0 := σ) S.ea (Ext.refl g H) S (RepWs.ofAll r1) e2
      refine ⟨a, xs, rfl, .of (S.sub.1 _ _ ha rfl), by rw [r1.length]; exact hl.symm, gNames_ok (by rw [r1.length]; exact hl) ?_⟩
      have em : (is.map fun i => (i, false)).map (·.1) = is := by simp [List.map_map, Function.comp_def]
      rw [em] at S2
      exact k g2 _ H x2 S2 (wipe_setAll fun i hi => hi)
  | _ => cases e
theorem okG_ofc {vs : List Nat} {e : Expr} {f : TgF} (h : OkGc X vs e f) (hn : NxOnly f) : OkG X Wx e f := by
  obtain ⟨t, p, q⟩ := h
  refine ⟨t, p, fun g σ H ρ v d E S r h => q g σ H ρ v d E.nx S r ?_⟩
  cases e : f d ρ with
  | none => rw [e] at h; exact h.elim
  | some o =>
    obtain ⟨ρ', rfl⟩ := hn d ρ o e
    rw [e] at h
    exact ⟨ρ', rfl, fun g' σ' H' x S' _ => h g' σ' H' x S'⟩
theorem tupN_nx (is : List Nat) : NxOnly (tupN is) := fun d ρ o h => by
  unfold tupN at h
  split at h
  · split at h
    · cases h; exact ⟨_, rfl⟩
    · cases h
  · cases h
def OkTs (X : Cx) (ifs : List Expr) (s : BS) : Prop := ∃ t, PTs X ifs t ∧ TrT X WF t s
def yesS : BS := fun ρ => some (.ok true ρ)
theorem okTs_nil : OkTs X [] yesS := ⟨_, pts_nil, fun g σ H ρ Q S h => PostB.ok S h⟩
theorem okTs_one {c : Expr} {s : BS} (h : OkT X WF c s) : OkTs X [c] s := let ⟨_, p, q⟩ := h; ⟨_, pts_one p, q⟩
def lcL (f : TgF) (t : BS) (e : ES) (vs : List Nat) : Nat → List D → Env' → Option (R (List D))
  | _, [], ρ => some (.ok [] ρ)
  | n, d :: ds, ρ => match f d ρ with
    | some (.nx ρ1) => match t ρ1 with
      | some (.ok true ρ2) => match e ρ2 with
        | some (.ok (.dat d') ρ3) => if n < lim then (match lcL f t e vs (n + 1) ds (wipeE ρ3 vs) with
          | some (.ok r ρ) => some (.ok (d' :: r) ρ)
          | _ => none) else none
        | _ => none
      | some (.ok false ρ2) => lcL f t e vs n ds (wipeE ρ2 vs)
      | _ => none
    | _ => none
def lcS (s : IS) (f : TgF) (t : BS) (e : ES) (vs : List Nat) : ES := fun ρ => bnd (s ρ) fun ds ρ => if freeE ρ vs = true then (match lcL f t e vs 0 ds (wipeE ρ vs) with
  | some (.ok r ρ') => some (.ok (.fresh (.lst r)) (keepE ρ ρ' vs))
  | _ => none) else none
/-- the parts of a comprehension -/
structure LcOk (X : Cx) (Wx : WX) (elt tg iter : Expr) (ifs : List Expr) (scope : Scope) (own : List (Str × Nat)) (s : IS) (f : TgF) (t : BS) (e : ES) (wi : TI) (g : TG) (tt : TT) (te : TE) : Prop where
  pi : PI X tg iter wi
  qi : ∀ g σ H ρ Q, SR X g σ H ρ → PostG X Wx (relI X) g σ H (s ρ) Q → wi σ H Q
  pg : ∀ (s : Shared) (H : Hp) (C : Addr) (cl : List (Str × Addr)) (fp : List Addr), PG (X.blk s H scope (compEnvC scope cl C X.env) fp) tg g
  qg : ∀ gh σ H ρ v d Q, SR X gh σ H ρ → Rep X.K gh.G v d → (∃ ρ', f d ρ = some (.nx ρ') ∧ ∀ g' σ' H', Ext gh H g' H' → SR X g' σ' H' ρ' → L2.wipe σ' (own.map (·.2)) = L2.wipe σ (own.map (·.2)) → Q σ' H') → g v σ H Q
  pt : ∀ (s : Shared) (H : Hp) (C : Addr) (cl : List (Str × Addr)) (fp : List Addr), PTs (X.blk s H scope (compEnvC scope cl C X.env) fp) ifs tt
  qt : TrT X WF tt t
  pe : ∀ (s : Shared) (H : Hp) (C : Addr) (cl : List (Str × Addr)) (fp : List Addr), PE (X.blk s H scope (compEnvC scope cl C X.env) fp) elt te
  qe : TrE X WF te e
theorem wipe_get {i : Nat} : ∀ {vs : List Nat} {σ : L2.St}, i ∈ vs → (L2.wipe σ vs)[i]? = (σ[i]?).map fun _ => none
  | v :: vs, σ, h => by
    unfold L2.wipe
    by_cases e : v = i
    · subst e
      by_cases hl : v < σ.length
      · rw [List.getElem?_set_self (by rw [wipe_length]; exact hl), List.getElem?_eq_getElem hl]
        rfl
      · rw [List.getElem?_eq_none (by rw [List.length_set, wipe_length]; omega), List.getElem?_eq_none (by omega)]
        rfl
    · rw [List.getElem?_set_ne e]
      rcases List.mem_cons.mp h with z | z
      · exact absurd z.symm e
      · exact wipe_get z
theorem wipe_idem (σ : L2.St) (vs : List Nat) : L2.wipe (L2.wipe σ vs) vs = L2.wipe σ vs := by
  apply List.ext_getElem?
  intro i
  by_cases hi : i ∈ vs
  · rw [wipe_get hi, wipe_get hi, Option.map_map]
    rfl
  · rw [wipe_at hi]
def lcK (ρ1 : Env') (vs : List Nat) (acc : List D) (o : Option (R (List D))) : Option (R W) := match o with
  | some (.ok r ρ') => some (.ok (.fresh (.lst (acc ++ r))) (keepE ρ1 ρ' vs))
  | _ => none
theorem lcK_cons {ρ1 : Env'} {vs : List Nat} {acc : List D} {d : D} {o : Option (R (List D))} : lcK ρ1 vs acc (match o with
    | some (.ok r ρ) => some (.ok (d :: r) ρ)
    | _ => none) = lcK ρ1 vs (acc ++ [d]) o := by
  cases o with
  | none => rfl
  | some r =>
    cases r with
    | ok r ρ => show some _ = some _; rw [List.append_assoc]; rfl
    | ex c d ρ => rfl
theorem tr_lc {elt tg iter : Expr} {ifs : List Expr} {scope : Scope} {own : List (Str × Nat)} {s : IS} {f : TgF} {t : BS} {e : ES} {wi : TI} {g : TG} {tt : TT} {te : TE} (L : LcOk X Wx elt tg iter ifs scope own s f t e wi g tt te) :
    TrE X Wx (tLc wi g tt te (own.map (·.2))) (lcS s f t e (own.map (·.2))) := by
  intro gS σ HS ρS Q SS h
  have qg := L.qg
  generalize own.map (·.2) = vs at *
  refine L.qi gS σ HS ρS _ SS (PostG.at (Ext.refl _ _) h ?_)
  intro ds ρ1 g1 H1 J _ e1 S1 r1 h1
  by_cases hf : freeE ρ1 vs = true
  · rw [if_pos hf] at h1
    have h1 : PostE X Wx gS σ HS (lcK ρ1 vs [] (lcL f t e vs 0 ds (wipeE ρ1 vs))) Q := h1
    intro Dp hD
    obtain ⟨xl, Sl⟩ := S1.lay (o := .lst []) hD
    have HD : HS Dp = none := by
      cases z : HS Dp with
      | none => rfl
      | some y => exact absurd hD (e1.al Dp (by rw [z]; exact fun q => by cases q))
    let P : Nat → Hp → Prop := fun i H => i ≤ ds.length ∧ ∃ (g2 : Gh) (ρ2 : Env') (acc : List D) (xs : List V), Ext gS HS g2 H ∧ Same g1.G g2.G ∧ SR X g2 (L2.wipe σ vs) H ρ2 ∧ H Dp = some (.lst xs) ∧ RepAll X.K g2.G xs acc ∧ g2.G Dp = none ∧ ¬ g2.O Dp ∧
      PostE X Wx gS σ HS (lcK ρ1 vs acc (lcL f t e vs acc.length (ds.drop i) ρ2)) Q
    refine ⟨fun i m H => m = ds.length - i ∧ P i H, ⟨ds.length, by simp, Nat.zero_le _, g1, wipeE ρ1 vs, [], [], e1.trans xl, Same.refl _, Sl.wipe vs, upd_same, .nil, S1.sub.free hD, fun z => S1.ot Dp z hD, by simpa using h1⟩, ?_⟩
    rintro i m H2 ⟨rfl, hi, g2, ρ2, acc, xs, x2, s2, S2, h2, r2, gD, oD, k2⟩
    by_cases hlt : i < ds.length
    · refine .inr ⟨r1.goes i H2 hlt (smT s2 S2.sub.1), P (i + 1), fun H' z => ⟨ds.length - (i + 1), by omega, rfl, z⟩, fun x H3 y => ?_⟩
      obtain ⟨g3, d, e3, S3, hd, rd⟩ := r1.yields i g2 _ H2 ρ2 x H3 hlt s2 S2 y
      obtain ⟨h3, gD3, oD3⟩ := e3.fr Dp _ h2 gD oD
      have hdr : ds.drop i = d :: ds.drop (i + 1) := by
        obtain ⟨h', e'⟩ := List.getElem?_eq_some_iff.mp hd
        rw [← e', List.drop_eq_getElem_cons h']
      rw [hdr] at k2
      unfold lcL at k2
      cases ef : f d ρ2 with
      | none => rw [ef] at k2; exact k2.elim
      | some o =>
        rw [ef] at k2
        cases o with
        | nx ρ3 =>
          dsimp only at k2
          refine qg g3 _ H3 ρ2 x d _ S3 rd ⟨ρ3, ef, fun g4 σ4 H4 e4 S4 hw => ?_⟩
          rw [wipe_idem] at hw
          obtain ⟨h4, gD4, oD4⟩ := e4.fr Dp _ h3 gD3 oD3
          refine ⟨hw, L.qt g4 σ4 H4 ρ3 _ S4 ?_⟩
          cases et : t ρ3 with
          | none => rw [et] at k2; exact k2.elim
          | some o =>
            rw [et] at k2
            cases o with
            | ex c d ρ => exact k2.elim
            | ok b ρ4 =>
              intro g5 H5 b' e5 S5 hb
              cases hb
              obtain ⟨h5, gD5, oD5⟩ := e5.fr Dp _ h4 gD4 oD4
              have S5' := S5.wipe vs
              rw [hw] at S5'
              have up5 : Same g2.G g5.G := (e3.up.trans e4.up).trans e5.up
              cases b with
              | false =>
                rw [if_neg Bool.false_ne_true]
                exact ⟨hlt, g5, wipeE ρ4 vs, acc, xs, ((x2.trans e3).trans e4).trans e5, s2.trans up5, S5', h5, r2.mono up5, gD5, oD5, k2⟩
              | true =>
                rw [if_pos rfl]
                dsimp only at k2
                refine L.qe g5 σ4 H5 ρ4 _ S5 ?_
                cases ee : e ρ4 with
                | none => rw [ee] at k2; exact k2.elim
                | some o =>
                  rw [ee] at k2
                  cases o with
                  | ex c d ρ => exact k2.elim
                  | ok w ρ5 =>
                    cases w with
                    | dat d' =>
                      dsimp only at k2
                      intro g6 H6 v e6 S6 rv
                      obtain ⟨h6, gD6, oD6⟩ := e6.fr Dp _ h5 gD5 oD5
                      by_cases hz : acc.length < lim
                      · rw [if_pos hz, lcK_cons] at k2
                        have S6' := S6.wipe vs
                        rw [hw] at S6'
                        have up6 : Same g2.G g6.G := up5.trans e6.up
                        refine ⟨xs, h6, by rw [r2.length, ← lim_eq]; exact hz, hlt, g6, wipeE ρ5 vs, acc ++ [d'], xs ++ [v], ((((x2.trans e3).trans e4).trans e5).trans e6).poke HD, s2.trans up6, S6'.poke gD6 oD6 (by rw [h6]; exact fun z => by cases z), upd_same,
                          (r2.mono up6).append (.cons rv.1 .nil), gD6, oD6, ?_⟩
                        rw [List.length_append]
                        exact k2
                      · rw [if_neg hz] at k2
                        exact k2.elim
                    | _ => exact k2.elim
        | _ => exact k2.elim
    · have e : i = ds.length := by omega
      subst e
      refine .inl ⟨r1.stops H2 (smT s2 S2.sub.1), ?_⟩
      rw [List.drop_length] at k2
      have k2 : PostE X Wx gS σ HS (some (.ok (.fresh (.lst (acc ++ []))) (keepE ρ1 ρ2 vs))) Q := k2
      rw [List.append_nil] at k2
      exact k2 g2 H2 (.ref Dp) x2 (S1.keep s2 S2 hf) ⟨⟨Dp, rfl, gD, oD, xs, h2, r2⟩, fun _ a ea => by cases ea; exact HD⟩
  · rw [if_neg hf] at h1
    exact h1.elim
/-! one reading for all blocks -/
section
variable {s0 : Shared} {H00 : Hp} {scope : Scope} {ce : Env} {fp : List Addr} {gh : Gh} {σ : L2.St} {H : Hp} {ρ : Env'}
theorem SR.blk (S : SR X gh σ H ρ) : SR (X.blk s0 H00 scope ce fp) gh σ H ρ := ⟨S.sub, S.len, S.slot, S.dis, S.ot, S.ea⟩
theorem SR.unblk (S : SR (X.blk s0 H00 scope ce fp) gh σ H ρ) : SR X gh σ H ρ := ⟨S.sub, S.len, S.slot, S.dis, S.ot, S.ea⟩
theorem PostE.blk {o : Option (R W)} {Q : VK} (h : PostE X WF gh σ H o Q) : PostE (X.blk s0 H00 scope ce fp) WF gh σ H o Q := by
  cases o with
  | none => exact h
  | some o =>
    cases o with
    | ok w ρ' => exact fun g' H' v e S r => h g' H' v e S.unblk r
    | ex c d ρ' => exact fun g' H' cv da e S r => h g' H' cv da e S.unblk r
theorem PostB.blk {o : Option (R Bool)} {Q : Bool → Hp → Prop} (h : PostB X WF gh σ H o Q) : PostB (X.blk s0 H00 scope ce fp) WF gh σ H o Q := by
  cases o with
  | none => exact h
  | some o =>
    cases o with
    | ok w ρ' => exact fun g' H' v e S r => h g' H' v e S.unblk r
    | ex c d ρ' => exact fun g' H' cv da e S r => h g' H' cv da e S.unblk r
end
theorem PE.imp {e : Expr} {t t' : TE} (p : PE X e t) (h : ∀ σ H Q, t' σ H Q → t σ H Q) : PE X e t' := ⟨fun pins s σ H Q I q => p.run pins s σ H Q I (h _ _ _ q)⟩
theorem lcOk_mk {elt tg iter : Expr} {ifs : List Expr} {scope : Scope} {own : List (Str × Nat)} {s : IS} {f : TgF} {t : BS} {e : ES} (hi : OkI X Wx tg iter s)
    (hg : ∀ (s : Shared) (H : Hp) (C : Addr) (cl : List (Str × Addr)) (fp : List Addr), OkGc (X.blk s H scope (compEnvC scope cl C X.env) fp) (own.map (·.2)) tg f)
    (ht : ∀ (s : Shared) (H : Hp) (C : Addr) (cl : List (Str × Addr)) (fp : List Addr), OkTs (X.blk s H scope (compEnvC scope cl C X.env) fp) ifs t)
    (he : ∀ (s : Shared) (H : Hp) (C : Addr) (cl : List (Str × Addr)) (fp : List Addr), OkE (X.blk s H scope (compEnvC scope cl C X.env) fp) WF elt e) : ∃ wi g tt te, LcOk X Wx elt tg iter ifs scope own s f t e wi g tt te := by
  obtain ⟨wi, pi, qi⟩ := hi
  refine ⟨wi, fun v σ H Q => ∀ s H0 C cl fp, (hg s H0 C cl fp).choose v σ H Q, fun σ H Q => ∀ s H0 C cl fp, (ht s H0 C cl fp).choose σ H Q, fun σ H Q => ∀ s H0 C cl fp, (he s H0 C cl fp).choose σ H Q, pi, qi, ?_, ?_, ?_, ?_, ?_, ?_⟩
  · exact fun s H0 C cl fp => ⟨fun pins sh σ H v u Q I r h => (hg s H0 C cl fp).choose_spec.1.run pins sh σ H v u Q I r (h s H0 C cl fp)⟩
  · exact fun gh σ H ρ v d Q S r h s H0 C cl fp => (hg s H0 C cl fp).choose_spec.2 gh σ H ρ v d Q S.blk r (let ⟨ρ', e, k⟩ := h; ⟨ρ', e, fun g' σ' H' x S' w => k g' σ' H' x S'.unblk w⟩)
  · exact fun s H0 C cl fp => ⟨fun pins sh σ H Q I h => (ht s H0 C cl fp).choose_spec.1.run pins sh σ H Q I (h s H0 C cl fp)⟩
  · exact fun gh σ H ρ Q S h s H0 C cl fp => (ht s H0 C cl fp).choose_spec.2 gh σ H ρ Q S.blk (PostB.blk h)
  · exact fun s H0 C cl fp => ⟨fun pins sh σ H Q I h => (he s H0 C cl fp).choose_spec.1.run pins sh σ H Q I (h s H0 C cl fp)⟩
  · exact fun gh σ H ρ Q S h s H0 C cl fp => (he s H0 C cl fp).choose_spec.2 gh σ H ρ Q S.blk (PostE.blk h)
theorem okLc {elt tg iter : Expr} {ifs : List Expr} {scope : Scope} {own : List (Str × Nat)} {pos : Pos} {s : IS} {f : TgF} {t : BS} {e : ES} (hc : X.calm = true) (hN : X.N.Nodup) (hi : OkI X Wx tg iter s) (ok : BlkOk X.N X.env.scope scope own)
    (hg : ∀ (s : Shared) (H : Hp) (C : Addr) (cl : List (Str × Addr)) (fp : List Addr), OkGc (X.blk s H scope (compEnvC scope cl C X.env) fp) (own.map (·.2)) tg f)
    (ht : ∀ (s : Shared) (H : Hp) (C : Addr) (cl : List (Str × Addr)) (fp : List Addr), OkTs (X.blk s H scope (compEnvC scope cl C X.env) fp) ifs t)
    (he : ∀ (s : Shared) (H : Hp) (C : Addr) (cl : List (Str × Addr)) (fp : List Addr), OkE (X.blk s H scope (compEnvC scope cl C X.env) fp) WF elt e) (hs : ∀ x, foldedSetIterable iter X.env x = pure x := by intro _; rfl) :
    OkE X Wx (.ListComp elt [⟨tg, iter, ifs, 0⟩] scope pos) (lcS s f t e (own.map (·.2))) := by
  obtain ⟨wi, g, tt, te, L⟩ := lcOk_mk hi hg ht he
  exact ⟨_, pe_lc hc hN L.pi ok L.pg L.pt L.pe hs, tr_lc L⟩
/-- name = [..] on one line -/
theorem okSetLc {i : Nat} {ow : Bool} {y : Str} {py : Pos} {elt tg iter : Expr} {ifs : List Expr} {scope : Scope} {own : List (Str × Nat)} {pos spos : Pos} {s : IS} {f : TgF} {t : BS} {e : ES} (hc : X.calm = true) (hN : X.N.Nodup) (hy : X.N[i]? = some y) (hyl : X.env.scope.names.lookup y = some .local)
    (hsw : swapsWith (.ListComp elt [⟨tg, iter, ifs, 0⟩] scope pos) (some (.Name y py)) spos.line X.env = pure true) (hi : OkI X Wx tg iter s) (ok : BlkOk X.N X.env.scope scope own)
    (hg : ∀ (s : Shared) (H : Hp) (C : Addr) (cl : List (Str × Addr)) (fp : List Addr), OkGc (X.blk s H scope (compEnvC scope cl C X.env) fp) (own.map (·.2)) tg f)
    (ht : ∀ (s : Shared) (H : Hp) (C : Addr) (cl : List (Str × Addr)) (fp : List Addr), OkTs (X.blk s H scope (compEnvC scope cl C X.env) fp) ifs t)
    (he : ∀ (s : Shared) (H : Hp) (C : Addr) (cl : List (Str × Addr)) (fp : List Addr), OkE (X.blk s H scope (compEnvC scope cl C X.env) fp) WF elt e) (hs : ∀ x, foldedSetIterable iter X.env x = pure x := by intro _; rfl) :
    OkS X Wx (.Assign [.Name y py] (.ListComp elt [⟨tg, iter, ifs, 0⟩] scope pos) spos) (asgS true i (lcS s f t e (own.map (·.2)))) ∧ OkS X Wx (.Assign [.Name y py] (.ListComp elt [⟨tg, iter, ifs, 0⟩] scope pos) spos) (asgS false i (hrd (lcS s f t e (own.map (·.2))))) := by
  obtain ⟨wi, g, tt, te, L⟩ := lcOk_mk hi hg ht he
  exact ⟨⟨_, ps_setLc hc hN hy hyl hsw L.pi ok L.pg L.pt L.pe hs, tr_asg (tr_lc L)⟩, ⟨_, ps_setLc hc hN hy hyl hsw L.pi ok L.pg L.pt L.pe hs, tr_asg (tr_hrd (tr_lc L))⟩⟩
end
end Py

namespace Py
open PySem PySem.Spec PyProof.Rows L2
/-! ### defs: what they do to values -/
inductive FR where
  | ret (w : W) (outs : List Cell)
  | ex (c : Str) (d : Option D) (outs : List Cell)
abbrev FS := List W → Option FR
/-- an argument that is handed by reference -/
def ArgR (X : Cx) (g : Gh) (H : Hp) (i : Nat) (v : V) : W → Prop
  | .fresh c => ∃ a, v = .ref a ∧ g.G a = none ∧ g.O a ∧ CellR X g.G H a c ∧ g.B i = some a
  | .own _ => False
  | w => RepP X g.G v w
structure ArgsR (X : Cx) (g : Gh) (H : Hp) (vs : List V) (ws : List W) : Prop where
  sub : Sb X g.G H
  len : vs.length = ws.length
  rep : ∀ (i : Nat) (v : V) (w : W), vs[i]? = some v → ws[i]? = some w → ArgR X g H i v w
  dis : ∀ (i j : Nat) (v : V) (w z : W), i ≠ j → vs[i]? = some v → ws[i]? = some w → ws[j]? = some z → w.isFresh = true → z.isFresh = true → vs[j]? ≠ some v
  ot : ∀ a, g.O a → H a ≠ none
  ea : g.E = H
def OutsR (X : Cx) (g : Gh) (H : Hp) : List V → List W → List Cell → Prop
  | v :: vs, .fresh _ :: ws, c :: cs => (∃ a, v = .ref a ∧ g.G a = none ∧ g.O a ∧ CellR X g.G H a c) ∧ OutsR X g H vs ws cs
  | _ :: vs, .dat _ :: ws, cs => OutsR X g H vs ws cs
  | _ :: vs, .obj _ _ :: ws, cs => OutsR X g H vs ws cs
  | _ :: vs, .scr _ :: ws, cs => OutsR X g H vs ws cs
  | [], [], [] => True
  | _, _, _ => False
def RetR (X : Cx) (g : Gh) (H0 H : Hp) (v : V) : W → Prop
  | .fresh c => ∃ a, v = .ref a ∧ g.G a = none ∧ ¬ g.O a ∧ CellR X g.G H a c ∧ H0 a = none
  | .own _ => False
  | w => RepP X g.G v w
def PostF (X : Cx) (g : Gh) (H : Hp) (vs : List V) (ws : List W) (r : FR) (Q : VK) (E : XK) : Prop := match r with
  | .ret w outs => ∀ g' H' v, Ext g H g' H' → Sb X g'.G H' → RetR X g' H H' v w → OutsR X g' H' vs ws outs → Q v H'
  | .ex c d outs => ∀ g' H' cv da, Ext g H g' H' → Sb X g'.G H' → OutsR X g' H' vs ws outs → ExR X g' H' cv da c d → E cv da H'
/-- the def at f does F -/
structure FnM (P : Program) (w : World) (K : PySem.W.Frag) (mg : Str → Option Value) (base : Heap) (k : Nat) (f : Addr) (fd : FuncData) (ps : List Str) (F : FS) : Prop where
  len : ∀ ws r, F ws = some r → ws.length = ps.length
  run : ∀ (X : Cx), X.K = K → X.mg = mg → ∀ (A : Around) (outer : List Env) (s : Shared) (H : Hp) (args : Args) (us : List Value) (vs : List V) (ws : List W) (g : Gh) (r : FR) (Q : VK) (E : XK), A.guards = some [] → Room k A → Env0 P w K mg base A outer s H →
    BindsTo s fd args (ps.zip us) → Vals vs us → ArgsR X g H vs ws → F ws = some r → PostF X g H vs ws r Q E → codeAny (model P w) A (.call (.ref f) args) (CR (L2.CX P w) outer P w H s Q E) s
theorem FnM.mono {P : Program} {w : World} {K : PySem.W.Frag} {mg : Str → Option Value} {base : Heap} {j k : Nat} {f : Addr} {fd : FuncData} {ps : List Str} {F : FS} (h : FnM P w K mg base j f fd ps F) (le : j ≤ k) : FnM P w K mg base k f fd ps F :=
  ⟨h.len, fun X hK hm A outer s H args us vs ws g r Q E hg hr => h.run X hK hm A outer s H args us vs ws g r Q E hg (hr.mono le)⟩
/-! the body -/
def argSlot : W → Option Slot
  | .fresh c => some (.ref c)
  | .own _ => none
  | w => some (.val w)
def startE (n : Nat) (ws : List W) : Env' := ws.map argSlot ++ List.replicate (n - ws.length) none
def outsE : List W → Nat → Env' → Option (List Cell)
  | [], _, _ => some []
  | .fresh _ :: ws, i, ρ => match ρ[i]? with
    | some (some (.ref c)) => match outsE ws (i + 1) ρ with
      | some cs => some (c :: cs)
      | none => none
    | _ => none
  | .own _ :: _, _, _ => none
  | _ :: ws, i, ρ => outsE ws (i + 1) ρ
def finF (ws : List W) (ρ : Env') (k : List Cell → FR) : Option FR := match outsE ws 0 ρ with
  | some cs => some (k cs)
  | none => none
def runF (m n : Nat) (s : SS) : FS := fun ws => if ws.length = m then (match s (startE n ws) with
  | some (.nx ρ) => finF ws ρ (.ret (.dat .none))
  | some (.ret (.own _) _) => none
  | some (.ret w ρ) => finF ws ρ (.ret w)
  | some (.ex c d ρ) => finF ws ρ (.ex c d)
  | _ => none) else none
section
variable {X : Cx} {g : Gh} {σ : L2.St} {H : Hp} {ρ : Env'}
theorem OutsR.of {vs0 : List V} {ws0 : List W} {g0 : Gh} {H0 : Hp} (A : ArgsR X g0 H0 vs0 ws0) (hB : g.B = g0.B) (S : SR X g σ H ρ) : ∀ {ws : List W} {vs : List V} {i : Nat} {cs : List Cell}, (∀ j, vs[j]? = vs0[i + j]?) → (∀ j, ws[j]? = ws0[i + j]?) → vs.length = ws.length →
    outsE ws i ρ = some cs → OutsR X g H vs ws cs
  | [], [], i, cs, _, _, _, h => by cases h; trivial
  | w :: ws, v :: vs, i, cs, hv, hw, hl, h => by
    have hv' : ∀ j, vs[j]? = vs0[i + 1 + j]? := fun j => by have := hv (j + 1); simpa [Nat.add_assoc, Nat.add_comm 1 j] using this
    have hw' : ∀ j, ws[j]? = ws0[i + 1 + j]? := fun j => by have := hw (j + 1); simpa [Nat.add_assoc, Nat.add_comm 1 j] using this
    have hl' : vs.length = ws.length := by simpa using hl
    cases w with
    | dat d => exact (show OutsR X g H vs ws cs from OutsR.of A hB S (vs := vs) (ws := ws) (i := i + 1) hv' hw' hl' h)
    | obj c fs => exact (show OutsR X g H vs ws cs from OutsR.of A hB S (vs := vs) (ws := ws) (i := i + 1) hv' hw' hl' h)
    | scr ns => exact (show OutsR X g H vs ws cs from OutsR.of A hB S (vs := vs) (ws := ws) (i := i + 1) hv' hw' hl' h)
    | own j => cases h
    | fresh c0 =>
      unfold outsE at h
      cases e : ρ[i]? with
      | none => simp only [e] at h; cases h
      | some s =>
        cases s with
        | none => simp only [e] at h; cases h
        | some s =>
          cases s with
          | val w => simp only [e] at h; cases h
          | own c => simp only [e] at h; cases h
          | ref c =>
            simp only [e] at h
            cases eo : outsE ws (i + 1) ρ with
            | none => rw [eo] at h; cases h
            | some cs' =>
              rw [eo] at h
              cases h
              refine ⟨?_, OutsR.of A hB S (i := i + 1) hv' hw' hl' eo⟩
              have h1 := hv 0
              have h2 := hw 0
              simp only [List.getElem?_cons_zero, Nat.add_zero] at h1 h2
              obtain ⟨a, ea, _, _, _, ba⟩ := A.rep i v (.fresh c0) h1.symm h2.symm
              obtain ⟨u, _, b, eb, nb, ob, q, bb⟩ := S.slot i _ e
              rw [hB, ba] at bb
              cases bb
              exact ⟨a, ea, nb, ob, q⟩
/-- the state at the entry -/
theorem SR.start {vs : List V} {ws : List W} {N : List Str} (A : ArgsR X g H vs ws) (hn : ws.length ≤ N.length) : SR X g (L2.start N vs) H (startE N.length ws) := by
  have hl := A.len
  have hw : ∀ (i : Nat) (s : Slot), (startE N.length ws)[i]? = some (some s) → ∃ w, ws[i]? = some w ∧ argSlot w = some s := fun i s h => by
    unfold startE at h
    by_cases hi : i < ws.length
    · rw [List.getElem?_append_left (by simpa using hi), List.getElem?_map] at h
      cases e : ws[i]? with
      | none => rw [e] at h; cases h
      | some w => rw [e] at h; exact ⟨w, rfl, Option.some.inj h⟩
    · rw [List.getElem?_append_right (by simpa using hi), List.getElem?_replicate] at h
      split at h <;> cases h
  have hv : ∀ (i : Nat) (v : V), vs[i]? = some v → (L2.start N vs)[i]? = some (some v) := fun i v h => by
    have hi : i < vs.length := (List.getElem?_eq_some_iff.mp h).1
    unfold L2.start
    rw [List.getElem?_append_left (by simpa using hi), List.getElem?_map, h]
    rfl
  have getv : ∀ (i : Nat) (w : W), ws[i]? = some w → ∃ v, vs[i]? = some v := fun i w h => by
    have hi : i < ws.length := (List.getElem?_eq_some_iff.mp h).1
    exact ⟨vs[i]'(by omega), by simp [show i < vs.length by omega]⟩
  have fr : ∀ {w : W} {s : Slot}, argSlot w = some s → s.owned ≠ none → w.isFresh = true := fun {w s} h ho => by
    cases w with
    | fresh c => rfl
    | own i => cases h
    | dat d => cases h; exact absurd rfl ho
    | obj c fs => cases h; exact absurd rfl ho
    | scr ns => cases h; exact absurd rfl ho
  refine ⟨A.sub, ?_, fun i s h => ?_, fun i j s t a hij hs ht so to ha => ?_, A.ot, fun a ha => by rw [← A.ea]; exact ha⟩
  · unfold L2.start startE
    simp only [List.length_append, List.length_map, List.length_replicate]
    omega
  · obtain ⟨w, h1, h2⟩ := hw i s h
    obtain ⟨v, h3⟩ := getv i w h1
    have r := A.rep i v w h3 h1
    refine ⟨v, hv i v h3, ?_⟩
    cases w with
    | dat d => cases h2; exact r
    | obj c fs => cases h2; exact r
    | scr ns => cases h2; exact r
    | own i => cases h2
    | fresh c => cases h2; exact r
  · obtain ⟨w, h1, h2⟩ := hw i s hs
    obtain ⟨z, h3, h4⟩ := hw j t ht
    obtain ⟨v, h5⟩ := getv i w h1
    obtain ⟨u, h6⟩ := getv j z h3
    rw [hv i v h5] at ha
    cases ha
    rw [hv j u h6]
    intro e
    cases e
    exact A.dis i j _ w z hij h5 h1 h3 (fr h2 so) (fr h4 to) h6
end
/-- what is wished of exceptions, in a def's body -/
abbrev wxF (E : XK) : WX := fun cls d _ H => E cls d H
section
variable {P : Program} {w : World} {K : PySem.W.Frag} {mg : Str → Option Value} {base : Heap}
abbrev bodyX (P : Program) (w : World) (K : PySem.W.Frag) (mg : Str → Option Value) (base : Heap) (N : List Str) (qual : Str) (st : Stmt) (f : Addr) (cdv : Value) (A : Around) (outer : List Env) (s : Shared) (H : Hp) (E : XK) : Cx :=
  cxOf (L2.CX P w) P w K mg base N qual (defScope st) f cdv A outer s H E
/-- THE RULE for a def -/
theorem fnM_of {x qual : Str} {st : Stmt} {f : Addr} {fd : FuncData} {N ps : List Str} {k : Nat} {b : SS} (F : Fun K x qual st f fd) (S : FnScope N ps (defScope st))
    (hb : ∀ (cdv : Value) (A : Around) (outer : List Env) (s : Shared) (H : Hp) (E : XK), (A.deeper (envOfC qual (defScope st) s.heap.objs.size f cdv)).guards = some [] → Room k (A.deeper (envOfC qual (defScope st) s.heap.objs.size f cdv)) →
      OkSs (bodyX P w K mg base N qual st f cdv A outer s H E) (wxF E) (defBody st) b) : FnM P w K mg base (k + 1) f fd ps (runF ps.length N.length b) := by
  obtain ⟨oc, od, kV, doc, pm, an, cdv, ct, osl, rfl, lk, hcd⟩ := F.ex
  have hpl : ps.length ≤ N.length := by have := congrArg List.length S.pre; rw [List.length_take] at this; omega
  refine ⟨fun ws r h => ?_, ?_⟩
  · unfold runF at h
    by_cases z : ws.length = ps.length
    · exact z
    · rw [if_neg z] at h; cases h
  intro Y hK hm A outer s H args us vs ws g r Q E hg hr e0 bd rv AR hF post
  subst hK hm
  have hws : ws.length = ps.length := by
    unfold runF at hF
    by_cases z : ws.length = ps.length
    · exact z
    · rw [if_neg z] at hF; cases hF
  have hvs : vs.length = ps.length := AR.len.trans hws
  have Kin : Y.K.In s.heap := e0.mod.kin.keeps fun c o q => (e0.bs c o q).1
  have nl : s.heap.NoLimit := e0.mod.nolimit.keeps fun c o q => (e0.bs c o q).1
  have kinds : ∀ y ∈ ps.zip us, (defScope st).names.lookup y.1 = some .local ∨ ((defScope st).names.lookup y.1 = some .cell ∧ ((cellsFrom (s.heap.objs.size + 1) (defScope st).names []).lookup y.1).isSome = true) := by
    rintro ⟨n, v⟩ hy
    exact (S.par n (List.of_mem_zip hy).1).imp (fun q => q) fun q => ⟨q, PySem.W.cellsFrom_some _ _ _ (.inl q)⟩
  refine codeAny_call_function hr.depth (Kin _ _ lk) rfl S.co S.gen rfl (PySem.W.codeRec_of Kin hcd) (bd _ _ _ _ (wpAny_newFunctionEnv_cells S.kind kinds fun env he s1 hx => ?_))
  subst he
  refine ⟨nl.keeps hx.toInCall.keep, codeAny_func ?_⟩
  obtain ⟨t, ht, hq⟩ := hb cdv A outer s H E hg (hr.deeper _)
  have I := inv_start (CX := L2.CX P w) (P := P) (w := w) (K := Y.K) (mg := Y.mg) (base := base) (E := E) S hr.hd e0 hvs rv hx
  have SS0 : SR Y g (L2.start N vs) H (startE N.length ws) := SR.start AR (by omega)
  -- the body's end
  let Ed : Ends := { nx := fun _ H' => Q .non H', rt := Q }
  have body : t Ed (L2.start N vs) H := by
    refine hq g (L2.start N vs) H (startE N.length ws) Ed ⟨SS0.sub, SS0.len, SS0.slot, SS0.dis, SS0.ot, SS0.ea⟩ ?_
    unfold runF at hF
    rw [if_pos hws] at hF
    have outs : ∀ {g' σ' H' ρ' cs}, Ext g H g' H' → SR Y g' σ' H' ρ' → outsE ws 0 ρ' = some cs → OutsR Y g' H' vs ws cs := fun {g' σ' H' ρ' cs} x S' h =>
      OutsR.of AR x.bb S' (i := 0) (fun j => by rw [Nat.zero_add]) (fun j => by rw [Nat.zero_add]) AR.len h
    cases eb : b (startE N.length ws) with
    | none => rw [eb] at hF; cases hF
    | some o =>
      rw [eb] at hF
      cases o with
      | brk ρ' => cases hF
      | ct ρ' => cases hF
      | nx ρ' =>
        unfold finF at hF
        cases eo : outsE ws 0 ρ' with
        | none => simp only [eo] at hF; cases hF
        | some cs =>
          simp only [eo] at hF
          cases hF
          exact fun g' σ' H' x S' => post g' H' .non x S'.sub (show Rep Y.K g'.G .non .none from .non) (outs x ⟨S'.sub, S'.len, S'.slot, S'.dis, S'.ot, S'.ea⟩ eo)
      | ex c d ρ' =>
        unfold finF at hF
        cases eo : outsE ws 0 ρ' with
        | none => simp only [eo] at hF; cases hF
        | some cs =>
          simp only [eo] at hF
          cases hF
          exact fun g' σ' H' cv da x S' xr => post g' H' cv da x S'.sub (outs x ⟨S'.sub, S'.len, S'.slot, S'.dis, S'.ot, S'.ea⟩ eo) xr
      | ret z ρ' =>
        have fin : z.isOwn = false → finF ws ρ' (.ret z) = some r → PostS (bodyX P w Y.K Y.mg base N qual st f cdv A outer s H E) (wxF E) g H (some (.ret z ρ')) Ed := fun ho hF => by
          unfold finF at hF
          cases eo : outsE ws 0 ρ' with
          | none => simp only [eo] at hF; cases hF
          | some cs =>
            simp only [eo] at hF
            cases hF
            intro g' σ' H' v x S' rw' fr
            refine post g' H' v x S'.sub ?_ (outs x ⟨S'.sub, S'.len, S'.slot, S'.dis, S'.ot, S'.ea⟩ eo)
            cases z with
            | dat d => exact rw'
            | obj c fs => exact rw'
            | scr ns => exact rw'
            | own i => cases ho
            | fresh c =>
              obtain ⟨a, ea, n, o, q⟩ := rw'
              exact ⟨a, ea, n, o, q, by have := fr rfl a ea; rw [AR.ea] at this; exact this⟩
        cases z with
        | own i => cases hF
        | dat d => exact fin rfl hF
        | obj c fs => exact fin rfl hF
        | scr ns => exact fin rfl hF
        | fresh c => exact fin rfl hF
  refine wpAny_mono (ht.run [] s1 (L2.start N vs) H Ed I body) (fun fl s' hs => ?_) fun e s' hs => hs
  have last : ∀ {σ' : L2.St} {H' : Hp} {v : V} {u : Value}, Inv (bodyX P w Y.K Y.mg base N qual st f cdv A outer s H E) [] σ' H' s' → RelV v u → Q v H' → CE outer P w H s Q u s' := fun {_ H' v _} J rv q => ⟨v, H', J.os, J.bare, J.base, J.hok, rv, q⟩
  cases fl with
  | ret u => obtain ⟨v, σ', H', J, rv, q⟩ := hs; exact last J rv q
  | next => obtain ⟨σ', H', J, q⟩ := hs; exact last (v := V.non) (u := Value.none) J rfl q
  | brk => obtain ⟨_, _, _, q⟩ := hs; exact False.elim q
  | cont => obtain ⟨_, _, _, q⟩ := hs; exact False.elim q
end
end Py

namespace Py
open PySem PySem.Spec PyProof.Rows L2
/-! ### a call -/
def argW (ρ : Env') : W → Option W
  | .own i => match cellAt ρ i with
    | some c => some (.fresh c)
    | none => none
  | w => some w
def argsW (ρ : Env') : List W → Option (List W)
  | [] => some []
  | w :: ws => match argW ρ w with
    | some z => match argsW ρ ws with
      | some zs => some (z :: zs)
      | none => none
    | none => none
theorem argW_own {ρ : Env'} {i : Nat} {z : W} (h : argW ρ (.own i) = some z) : ∃ c, z = .fresh c ∧ cellAt ρ i = some c := by
  cases e : cellAt ρ i with
  | none => simp only [argW, e] at h; cases h
  | some c => simp only [argW, e] at h; cases h; exact ⟨c, rfl, rfl⟩
theorem argW_else {ρ : Env'} {w z : W} (h : argW ρ w = some z) (hw : w.isOwn = false) : z = w := by
  cases w with
  | own i => cases hw
  | dat d => exact (Option.some.inj h).symm
  | obj c fs => exact (Option.some.inj h).symm
  | scr ns => exact (Option.some.inj h).symm
  | fresh c => exact (Option.some.inj h).symm
theorem cellAt_slot {ρ : Env'} {i : Nat} {c : Cell} (h : cellAt ρ i = some c) : ∃ s, ρ[i]? = some (some s) ∧ s.owned = some c := by
  unfold cellAt at h
  split at h
  · rename_i e; cases h; exact ⟨_, e, rfl⟩
  · rename_i e; cases h; exact ⟨_, e, rfl⟩
  · cases h
def ownIx : List W → List Nat
  | [] => []
  | .own i :: ws => i :: ownIx ws
  | _ :: ws => ownIx ws
def backE : List W → List Cell → Env' → Option Env'
  | [], [], ρ => some ρ
  | .own i :: ws, c :: cs, ρ => backE ws cs (setCell ρ i c)
  | .fresh _ :: ws, _ :: cs, ρ => backE ws cs ρ
  | .dat _ :: ws, cs, ρ => backE ws cs ρ
  | .obj _ _ :: ws, cs, ρ => backE ws cs ρ
  | .scr _ :: ws, cs, ρ => backE ws cs ρ
  | _, _, _ => none
def runCall (F : FS) (ws : List W) (ρ : Env') : Option (R W) := if (ownIx ws).Nodup then (match argsW ρ ws with
  | some zs => match F zs with
    | some (.ret w cs) => match backE ws cs ρ with
      | some ρ' => some (.ok w ρ')
      | none => none
    | some (.ex c d cs) => match backE ws cs ρ with
      | some ρ' => some (.ex c d ρ')
      | none => none
    | none => none
  | none => none) else none
def fCall (F : FS) (sa : AS) : ES := fun ρ => bnd (sa ρ) (runCall F)
section
variable {X : Cx} {g : Gh} {σ : L2.St} {H : Hp} {ρ : Env'}
/-- a state in which what some slots own is not yet told -/
structure SRq (X : Cx) (g : Gh) (σ : L2.St) (H : Hp) (ρ : Env') (pend : List Nat) : Prop where
  sub : Sb X g.G H
  len : σ.length = ρ.length
  slot : ∀ (i : Nat) (s : Slot), ρ[i]? = some (some s) → i ∉ pend → ∃ v, σ[i]? = some (some v) ∧ SlotR X g H i v s
  pnd : ∀ (i : Nat) (s : Slot), ρ[i]? = some (some s) → i ∈ pend → ∃ a, σ[i]? = some (some (.ref a)) ∧ g.G a = none ∧ g.O a ∧ match s with
    | .val _ => False
    | .own _ => g.E a = none
    | .ref _ => g.B i = some a
  dis : ∀ (i j : Nat) (s t : Slot) (a : Addr), i ≠ j → ρ[i]? = some (some s) → ρ[j]? = some (some t) → s.owned ≠ none → t.owned ≠ none → σ[i]? = some (some (.ref a)) → σ[j]? ≠ some (some (.ref a))
  ot : ∀ a, g.O a → H a ≠ none
  ea : ∀ a, g.E a ≠ none → H a ≠ none
theorem setCell_cases {ρ : Env'} {i : Nat} {c : Cell} (j : Nat) (s : Slot) (h : (setCell ρ i c)[j]? = some (some s)) (hi : i < ρ.length) : (j ≠ i ∧ ρ[j]? = some (some s)) ∨ (j = i ∧ ((s = .ref c ∧ ∃ c0, ρ[i]? = some (some (.ref c0))) ∨ (s = .own c ∧ ∀ c0, ρ[i]? ≠ some (some (.ref c0))))) := by
  unfold setCell at h
  by_cases e : j = i
  · subst e
    refine .inr ⟨rfl, ?_⟩
    split at h
    · rename_i c0 e0
      rw [List.getElem?_set_self hi] at h
      cases h
      exact .inl ⟨rfl, c0, e0⟩
    · rename_i ne
      rw [List.getElem?_set_self hi] at h
      cases h
      exact .inr ⟨rfl, fun c0 z => ne c0 z⟩
  · refine .inl ⟨e, ?_⟩
    split at h <;> (rw [List.getElem?_set_ne (Ne.symm e)] at h; exact h)
theorem SRq.step {pend : List Nat} {i : Nat} {c : Cell} {a : Addr} (S : SRq X g σ H ρ (i :: pend)) (hn : i ∉ pend) (hs : ∃ s, ρ[i]? = some (some s)) (ha : σ[i]? = some (some (.ref a))) (hc : CellR X g.G H a c) : SRq X g σ H (setCell ρ i c) pend := by
  obtain ⟨s0, hs0⟩ := hs
  have hi : i < ρ.length := (List.getElem?_eq_some_iff.mp hs0).1
  obtain ⟨a', ha', n, o, k⟩ := S.pnd i s0 hs0 List.mem_cons_self
  rw [ha] at ha'
  cases ha'
  have own0 : s0.owned ≠ none := by
    cases s0 with
    | val w => exact k.elim
    | own c => exact fun z => by cases z
    | ref c => exact fun z => by cases z
  have old : ∀ {j : Nat} {s : Slot}, (setCell ρ i c)[j]? = some (some s) → s.owned ≠ none → ∃ s', ρ[j]? = some (some s') ∧ s'.owned ≠ none := fun {j s} h ho => by
    rcases setCell_cases j s h hi with ⟨_, h⟩ | ⟨rfl, _⟩
    · exact ⟨s, h, ho⟩
    · exact ⟨s0, hs0, own0⟩
  refine ⟨S.sub, ?_, fun j s h hj => ?_, fun j s h hj => ?_, fun j k s t b hjk h1 h2 so to hb => ?_, S.ot, S.ea⟩
  · have := S.len
    unfold setCell
    split <;> simpa using this
  · rcases setCell_cases j s h hi with ⟨ne, h⟩ | ⟨rfl, z⟩
    · exact S.slot j s h (by simp only [List.mem_cons, not_or]; exact ⟨ne, hj⟩)
    · refine ⟨.ref a, ha, ?_⟩
      rcases z with ⟨rfl, c0, e0⟩ | ⟨rfl, e0⟩
      · rw [hs0] at e0
        cases e0
        exact ⟨a, rfl, n, o, hc, k⟩
      · cases s0 with
        | val w => exact k.elim
        | ref c0 => exact absurd hs0 (e0 c0)
        | own c0 => exact ⟨a, rfl, n, o, hc, k⟩
  · rcases setCell_cases j s h hi with ⟨ne, h⟩ | ⟨rfl, z⟩
    · exact S.pnd j s h (List.mem_cons_of_mem _ hj)
    · exact absurd hj hn
  · obtain ⟨s', h1', so'⟩ := old h1 so
    obtain ⟨t', h2', to'⟩ := old h2 to
    exact S.dis j k s' t' b hjk h1' h2' so' to' hb
theorem SRq.done (S : SRq X g σ H ρ []) : SR X g σ H ρ := ⟨S.sub, S.len, fun i s h => S.slot i s h (by simp), S.dis, S.ot, S.ea⟩
/-- what the callee hands back goes into the slots -/
theorem SRq.back {gc : Gh} (hO : gc.G = g.G) {H0 H1 : Hp} {g0 : Gh} {ρ0 : Env'} : ∀ {ws : List W} {zs : List W} {vs : List V} {cs : List Cell} {ρ ρ' : Env'}, SRq X g σ H ρ (ownIx ws) → (ownIx ws).Nodup → (∀ i ∈ ownIx ws, ∃ s, ρ[i]? = some (some s)) →
    RepWs X g0 σ H0 H1 vs ws → argsW ρ0 ws = some zs → OutsR X gc H vs zs cs → backE ws cs ρ = some ρ' → SR X g σ H ρ'
  | [], zs, vs, cs, ρ, ρ', S, _, _, r, ha, _, hb => by
    cases cs with
    | nil => cases hb; exact S.done
    | cons _ _ => cases hb
  | w :: ws, zs, vs, cs, ρ, ρ', S, nd, ex, r, ha, ho, hb => by
    cases r with
    | cons rw' rf rt rn =>
      rename_i v vs
      unfold argsW at ha
      cases w with
      | dat d =>
        simp only [argW] at ha
        cases e : argsW ρ0 ws with
        | none => rw [e] at ha; cases ha
        | some zs' =>
          rw [e] at ha
          cases ha
          exact SRq.back (ws := ws) (zs := zs') (vs := vs) (cs := cs) hO S nd ex rt e ho hb
      | obj c fs =>
        simp only [argW] at ha
        cases e : argsW ρ0 ws with
        | none => rw [e] at ha; cases ha
        | some zs' =>
          rw [e] at ha
          cases ha
          exact SRq.back (ws := ws) (zs := zs') (vs := vs) (cs := cs) hO S nd ex rt e ho hb
      | scr ns =>
        simp only [argW] at ha
        cases e : argsW ρ0 ws with
        | none => rw [e] at ha; cases ha
        | some zs' =>
          rw [e] at ha
          cases ha
          exact SRq.back (ws := ws) (zs := zs') (vs := vs) (cs := cs) hO S nd ex rt e ho hb
      | fresh c =>
        simp only [argW] at ha
        cases e : argsW ρ0 ws with
        | none => rw [e] at ha; cases ha
        | some zs' =>
          rw [e] at ha
          cases ha
          cases cs with
          | nil => cases hb
          | cons c' cs => exact SRq.back (ws := ws) (zs := zs') (vs := vs) (cs := cs) hO S nd ex rt e ho.2 hb
      | own i =>
        cases ec : cellAt ρ0 i with
        | none => simp only [argW, ec] at ha; cases ha
        | some c =>
          simp only [argW, ec] at ha
          cases e : argsW ρ0 ws with
          | none => rw [e] at ha; cases ha
          | some zs' =>
            rw [e] at ha
            cases ha
            cases cs with
            | nil => cases hb
            | cons c' cs =>
              obtain ⟨⟨a, ea, na, oa, q⟩, ho⟩ := ho
              have nd2 := List.nodup_cons.mp nd
              have hv : σ[i]? = some (some v) := rw'
              rw [ea] at hv
              have S2 := SRq.step (c := c') S nd2.1 (ex i List.mem_cons_self) hv (by rw [← hO]; exact q)
              refine SRq.back (ws := ws) (zs := zs') (vs := vs) (cs := cs) hO S2 nd2.2 (fun j hj => ?_) rt e ho hb
              obtain ⟨s, hs⟩ := ex j (List.mem_cons_of_mem _ hj)
              have ne : i ≠ j := fun z => nd2.1 (by rw [z]; exact hj)
              refine ⟨s, ?_⟩
              unfold setCell
              split <;> rw [List.getElem?_set_ne ne] <;> exact hs
end
theorem argsW_len {ρ : Env'} : ∀ {ws zs : List W}, argsW ρ ws = some zs → zs.length = ws.length
  | [], _, h => by cases h; rfl
  | w :: ws, zs, h => by
    unfold argsW at h
    cases e : argW ρ w with
    | none => rw [e] at h; cases h
    | some z =>
      rw [e] at h
      dsimp only at h
      cases e2 : argsW ρ ws with
      | none => rw [e2] at h; cases h
      | some zs' => rw [e2] at h; cases h; simp [argsW_len e2]
theorem argsW_get {ρ : Env'} : ∀ {ws zs : List W} {i : Nat} {z : W}, argsW ρ ws = some zs → zs[i]? = some z → ∃ w, ws[i]? = some w ∧ argW ρ w = some z
  | [], _, i, z, h, hz => by cases h; simp at hz
  | w :: ws, zs, i, z, h, hz => by
    unfold argsW at h
    cases e : argW ρ w with
    | none => rw [e] at h; cases h
    | some z0 =>
      rw [e] at h
      dsimp only at h
      cases e2 : argsW ρ ws with
      | none => rw [e2] at h; cases h
      | some zs' =>
        rw [e2] at h
        cases h
        cases i with
        | zero =>
          have hz : z0 = z := by simpa using hz
          rw [← hz]
          exact ⟨w, rfl, e⟩
        | succ i => obtain ⟨w', h1, h2⟩ := argsW_get (i := i) e2 (by simpa using hz); exact ⟨w', by simpa using h1, h2⟩
theorem ownIx_mem {i : Nat} : ∀ {ws : List W}, i ∈ ownIx ws → ∃ p : Nat, ws[p]? = some (W.own i)
  | .own j :: ws, h => by
    rcases List.mem_cons.mp (show i ∈ j :: ownIx ws from h) with rfl | h
    · exact ⟨0, rfl⟩
    · obtain ⟨p, hp⟩ := ownIx_mem h; exact ⟨p + 1, by simpa using hp⟩
  | .dat _ :: ws, h => by obtain ⟨p, hp⟩ := ownIx_mem (ws := ws) h; exact ⟨p + 1, by simpa using hp⟩
  | .obj _ _ :: ws, h => by obtain ⟨p, hp⟩ := ownIx_mem (ws := ws) h; exact ⟨p + 1, by simpa using hp⟩
  | .scr _ :: ws, h => by obtain ⟨p, hp⟩ := ownIx_mem (ws := ws) h; exact ⟨p + 1, by simpa using hp⟩
  | .fresh _ :: ws, h => by obtain ⟨p, hp⟩ := ownIx_mem (ws := ws) h; exact ⟨p + 1, by simpa using hp⟩
theorem ownIx_of {i : Nat} : ∀ {ws : List W} {p : Nat}, ws[p]? = some (W.own i) → i ∈ ownIx ws
  | w :: ws, 0, h => by simp at h; subst h; exact List.mem_cons_self
  | w :: ws, p + 1, h => by
    have := ownIx_of (ws := ws) (p := p) (by simpa using h)
    cases w with
    | own j => exact List.mem_cons_of_mem _ this
    | _ => exact this
theorem ownIx_inj {i : Nat} : ∀ {ws : List W} {p q : Nat}, (ownIx ws).Nodup → ws[p]? = some (W.own i) → ws[q]? = some (W.own i) → p = q
  | w :: ws, 0, 0, _, _, _ => rfl
  | w :: ws, 0, q + 1, nd, h1, h2 => by
    simp at h1
    subst h1
    exact absurd (ownIx_of (ws := ws) (p := q) (by simpa using h2)) (List.nodup_cons.mp nd).1
  | w :: ws, p + 1, 0, nd, h1, h2 => by
    simp at h2
    subst h2
    exact absurd (ownIx_of (ws := ws) (p := p) (by simpa using h1)) (List.nodup_cons.mp nd).1
  | w :: ws, p + 1, q + 1, nd, h1, h2 => by
    have nd' : (ownIx ws).Nodup := by
      cases w with
      | own j => exact (List.nodup_cons.mp nd).2
      | _ => exact nd
    exact congrArg (· + 1) (ownIx_inj (i := i) (ws := ws) (p := p) (q := q) nd' (by simpa using h1) (by simpa using h2))
/-- what exceptions leave a call reach the wish -/
def CtxOk (X : Cx) (Wx : WX) : Prop := ∀ σ, PassesAt (L2.CX X.prog X.w) X σ (WE Wx σ)
/-- the state seen by a callee -/
def calleeG (g : Gh) (H : Hp) (vs : List V) (zs : List W) : Gh where
  G := g.G
  O := fun a => ∃ (i : Nat) (c : Cell), vs[i]? = some (V.ref a) ∧ zs[i]? = some (W.fresh c)
  B := fun i => match vs[i]?, zs[i]? with
    | some (V.ref a), some (W.fresh _) => some a
    | _, _ => none
  E := H
section
variable {X : Cx} {Wx : WX}
/-- a call, by values: from the arguments' relation to the end -/
theorem call_back {gS g : Gh} {HS H : Hp} {σ : L2.St} {ρ : Env'} {vs : List V} {ws zs : List W} (e1 : Ext gS HS g H) (S : SR X g σ H ρ) (rw' : RepWs X g σ HS H vs ws) (nd : (ownIx ws).Nodup) (ha : argsW ρ ws = some zs) :
    ArgsR X (calleeG g H vs zs) H vs zs ∧ ∀ (g' : Gh) (H' : Hp) (cs : List Cell) (ρ' : Env'), Ext (calleeG g H vs zs) H g' H' → Sb X g'.G H' → OutsR X g' H' vs zs cs → backE ws cs ρ = some ρ' → Ext gS HS ⟨g'.G, g.O, g.B, g.E⟩ H' ∧ SR X ⟨g'.G, g.O, g.B, g.E⟩ σ H' ρ' := by
  have hlen := rw'.length
  have zlen := argsW_len ha
  have getv : ∀ {i : Nat} {z : W}, zs[i]? = some z → ∃ v w, vs[i]? = some v ∧ ws[i]? = some w ∧ argW ρ w = some z := fun {i z} hz => by
    obtain ⟨w, h1, h2⟩ := argsW_get ha hz
    have hi : i < ws.length := (List.getElem?_eq_some_iff.mp h1).1
    exact ⟨vs[i]'(by omega), w, by simp [show i < vs.length by omega], h1, h2⟩
  -- each handed cell
  have cellOf : ∀ {i : Nat} {c : Cell} {v : V}, zs[i]? = some (.fresh c) → vs[i]? = some v → ∃ a, v = .ref a ∧ g.G a = none ∧ CellR X g.G H a c ∧ ((∃ j, ws[i]? = some (.own j) ∧ σ[j]? = some (some (.ref a)) ∧ g.O a) ∨ (∃ c, ws[i]? = some (.fresh c) ∧ ¬ g.O a ∧ HS a = none)) := fun {i c v} hz hv => by
    obtain ⟨w, h1, h2⟩ := argsW_get ha hz
    obtain ⟨r1, f1⟩ := rw'.get hv h1
    cases w with
    | dat d => cases h2
    | obj c fs => cases h2
    | scr ns => cases h2
    | fresh c' =>
      cases h2
      obtain ⟨a, ea, n, o, q⟩ := r1
      exact ⟨a, ea, n, q, .inr ⟨c, h1, o, f1 rfl a ea⟩⟩
    | own j =>
      cases ec : cellAt ρ j with
      | none => simp only [argW, ec] at h2; cases h2
      | some c' =>
        simp only [argW, ec] at h2
        cases h2
        obtain ⟨a, ea, n, o, q⟩ := S.cell ec
        have r1 : σ[j]? = some (some v) := r1
        rw [ea] at r1
        cases r1
        exact ⟨a, rfl, n, q, .inl ⟨j, h1, ea, o⟩⟩
  have AR : ArgsR X (calleeG g H vs zs) H vs zs := by
    refine ⟨S.sub, by omega, fun i v z hv hz => ?_, fun i j v z z' hij hv hz hz' hf hf' hv' => ?_, fun a ⟨i, c, h1, h2⟩ => ?_, rfl⟩
    · obtain ⟨w, h1, h2⟩ := argsW_get ha hz
      obtain ⟨r1, _⟩ := rw'.get hv h1
      cases z with
      | fresh c =>
        obtain ⟨a, rfl, n, q, _⟩ := cellOf hz hv
        exact ⟨a, rfl, n, ⟨i, c, hv, hz⟩, q, by show (match vs[i]?, zs[i]? with | some (.ref a), some (.fresh _) => some a | _, _ => none) = some a; rw [hv, hz]⟩
      | own j =>
        cases w with
        | own j' => obtain ⟨c, e, _⟩ := argW_own h2; cases e
        | _ => cases argW_else h2 rfl
      | dat d =>
        cases w with
        | own j' => obtain ⟨c, e, _⟩ := argW_own h2; cases e
        | dat d' => cases argW_else h2 rfl; exact r1
        | _ => cases argW_else h2 rfl
      | obj c fs =>
        cases w with
        | own j' => obtain ⟨c, e, _⟩ := argW_own h2; cases e
        | obj c' fs' => cases argW_else h2 rfl; exact r1
        | _ => cases argW_else h2 rfl
      | scr ns =>
        cases w with
        | own j' => obtain ⟨c, e, _⟩ := argW_own h2; cases e
        | scr ns' => cases argW_else h2 rfl; exact r1
        | _ => cases argW_else h2 rfl
    · cases z with
      | fresh c =>
        cases z' with
        | fresh c' =>
          obtain ⟨a, rfl, n, q, k⟩ := cellOf hz hv
          obtain ⟨a', e', n', q', k'⟩ := cellOf hz' hv'
          cases e'
          rcases k with ⟨p, hp, sp, op⟩ | ⟨c1, hp, op, hs⟩
          · rcases k' with ⟨p', hp', sp', op'⟩ | ⟨c2, hp', op', hs'⟩
            · by_cases e : p = p'
              · subst e
                exact hij (ownIx_inj nd hp hp')
              · have cell : ∀ {p i : Nat}, ws[i]? = some (.own p) → (∃ c, zs[i]? = some (.fresh c)) → ∃ s, ρ[p]? = some (some s) ∧ s.owned ≠ none := fun {p i} hw ⟨c, hz⟩ => by
                  obtain ⟨w, h1, h2⟩ := argsW_get ha hz
                  rw [hw] at h1
                  cases h1
                  obtain ⟨c1, _, hc1⟩ := argW_own h2
                  obtain ⟨s, h3, h4⟩ := cellAt_slot hc1
                  exact ⟨s, h3, by rw [h4]; exact fun z => by cases z⟩
                obtain ⟨s, hs, so⟩ := cell hp ⟨_, hz⟩
                obtain ⟨t, ht, to⟩ := cell hp' ⟨_, hz'⟩
                exact S.dis p p' s t a e hs ht so to sp sp'
            · exact op' op
          · rcases k' with ⟨p', hp', sp', op'⟩ | ⟨c2, hp', op', hs'⟩
            · exact op op'
            · -- two new ones are apart
              have apart : ∀ {vs : List V} {ws : List W}, RepWs X g σ HS H vs ws → ∀ (i j : Nat) (v : V) (c c' : Cell), i < j → vs[i]? = some v → ws[i]? = some (.fresh c) → ws[j]? = some (.fresh c') → vs[j]? ≠ some v := by
                intro vs ws t
                induction t with
                | nil => intro i j v c c' _ h; simp at h
                | cons r f t n ih =>
                  intro i j v c c' hij h1 h2 h3 h4
                  cases j with
                  | zero => omega
                  | succ j =>
                    cases i with
                    | zero =>
                      simp at h1 h2
                      subst h1 h2
                      exact n rfl j _ _ (by simpa using h4) (by simpa using h3) rfl rfl
                    | succ i => exact ih i j v c c' (by omega) (by simpa using h1) (by simpa using h2) (by simpa using h3) (by simpa using h4)
              rcases Nat.lt_or_gt_of_ne hij with lt | lt
              · exact apart rw' i j _ c1 c2 lt hv hp hp' hv'
              · exact apart rw' j i _ c2 c1 lt hv' hp' hp hv
        | _ => cases hf'
      | _ => cases hf
    · obtain ⟨a', e', n', q', _⟩ := cellOf h2 h1
      cases e'
      obtain ⟨y, hy⟩ := q'.some
      rw [hy]
      exact fun z => by cases z
  refine ⟨AR, ?_⟩
  -- behind the call
  refine fun g' H' cs ρ' x sub ho hb => ?_
  · 
    have frC : ∀ b y, H b = some y → g.G b = none → (∀ (i : Nat) (c : Cell), vs[i]? = some (V.ref b) → zs[i]? ≠ some (W.fresh c)) → H' b = some y ∧ g'.G b = none := fun b y hb' nb nz => by
      obtain ⟨h1, h2, _⟩ := x.fr b y hb' nb fun ⟨i, c, q1, q2⟩ => nz i c q1 q2
      exact ⟨h1, h2⟩
    refine ⟨⟨e1.up.trans x.up, fun b y hb' nb ob => ?_, fun b hb' => x.al b (e1.al b hb'), e1.bb, e1.be⟩, ?_⟩
    · obtain ⟨h1, h2, h3⟩ := e1.fr b y hb' nb ob
      obtain ⟨h4, h5⟩ := frC b y h1 h2 fun i c q1 q2 => by
        obtain ⟨a, e, _, _, k⟩ := cellOf q2 q1
        cases e
        rcases k with ⟨_, _, _, o⟩ | ⟨_, _, _, z⟩
        · exact h3 o
        · rw [z] at hb'; cases hb'
      exact ⟨h4, h5, h3⟩
    · have S1 : SRq X ⟨g'.G, g.O, g.B, g.E⟩ σ H' ρ (ownIx ws) := by
        refine ⟨sub, S.len, fun i s hs hi => ?_, fun i s hs hi => ?_, S.dis, fun a oa => x.al a (S.ot a oa), fun a oa => x.al a (S.ea a oa)⟩
        · obtain ⟨v, h1, h2⟩ := S.slot i s hs
          refine ⟨v, h1, ?_⟩
          have stay : ∀ {a : Addr} {c : Cell}, v = .ref a → g.G a = none → g.O a → CellR X g.G H a c → s.owned ≠ none → g'.G a = none ∧ CellR X g'.G H' a c := fun {a c} e n o q so => by
            obtain ⟨y, hy⟩ := q.some
            obtain ⟨h3, h4⟩ := frC a y hy n fun p c' q1 q2 => by
              obtain ⟨b, e2, _, _, k⟩ := cellOf q2 q1
              cases e2
              rcases k with ⟨j, hj, sj, _⟩ | ⟨_, _, z, _⟩
              · have hne : i ≠ j := fun z => hi (by rw [z]; exact ownIx_of hj)
                obtain ⟨w, hw, hz⟩ := argsW_get ha q2
                rw [hj] at hw
                cases hw
                have : ∃ t, ρ[j]? = some (some t) ∧ t.owned ≠ none := by
                  obtain ⟨c1, _, hc1⟩ := argW_own hz
                  obtain ⟨s, h3, h4⟩ := cellAt_slot hc1
                  exact ⟨s, h3, by rw [h4]; exact fun z => by cases z⟩
                obtain ⟨t, ht, to⟩ := this
                rw [e] at h1
                exact S.dis i j s t a hne hs ht so to h1 sj
              · exact z o
            exact ⟨h4, q.mono x.up fun z hz => by rw [hy] at hz; cases hz; exact h3⟩
          cases s with
          | val w => exact RepP.mono x.up h2
          | own c =>
            obtain ⟨a, e, n, o, q, k⟩ := h2
            obtain ⟨h3, h4⟩ := stay e n o q fun z => by cases z
            exact ⟨a, e, h3, o, h4, k⟩
          | ref c =>
            obtain ⟨a, e, n, o, q, k⟩ := h2
            obtain ⟨h3, h4⟩ := stay e n o q fun z => by cases z
            exact ⟨a, e, h3, o, h4, k⟩
        · obtain ⟨p, hp⟩ := ownIx_mem hi
          have hpl : p < ws.length := (List.getElem?_eq_some_iff.mp hp).1
          have hpv : vs[p]? = some (vs[p]'(by omega)) := by simp [show p < vs.length by omega]
          have hpz : zs[p]? = some (zs[p]'(by omega)) := by simp [show p < zs.length by omega]
          obtain ⟨w, hw, hz⟩ := argsW_get ha hpz
          rw [hp] at hw
          cases hw
          obtain ⟨v, h1, h2⟩ := S.slot i s hs
          obtain ⟨c1, hz1, hc1⟩ := argW_own hz
          have hso : s.owned = some c1 := by
            obtain ⟨s', h3, h4⟩ := cellAt_slot hc1
            rw [hs] at h3
            cases h3
            exact h4
          -- the callee has told what stands there
          have told : ∀ {vs : List V} {zs : List W} {cs : List Cell} {p : Nat} {c : Cell} {v : V}, OutsR X g' H' vs zs cs → vs[p]? = some v → zs[p]? = some (.fresh c) → ∃ a, v = .ref a ∧ g'.G a = none := by
            intro vs
            induction vs with
            | nil => intro zs cs p c v _ h; simp at h
            | cons u vs ih =>
              intro zs cs p c v ho h1 h2
              cases zs with
              | nil => simp at h2
              | cons z zs =>
                cases z with
                | dat d =>
                  cases p with
                  | zero => simp at h2
                  | succ p => exact ih (show OutsR X g' H' vs zs cs from ho) (by simpa using h1) (by simpa using h2)
                | obj c' fs =>
                  cases p with
                  | zero => simp at h2
                  | succ p => exact ih (show OutsR X g' H' vs zs cs from ho) (by simpa using h1) (by simpa using h2)
                | scr ns =>
                  cases p with
                  | zero => simp at h2
                  | succ p => exact ih (show OutsR X g' H' vs zs cs from ho) (by simpa using h1) (by simpa using h2)
                | own j => cases cs <;> exact ho.elim
                | fresh c' =>
                  cases cs with
                  | nil => exact ho.elim
                  | cons c2 cs =>
                    cases p with
                    | zero =>
                      simp at h1
                      subst h1
                      obtain ⟨⟨a, e, n, _⟩, _⟩ := ho
                      exact ⟨a, e, n⟩
                    | succ p => exact ih ho.2 (by simpa using h1) (by simpa using h2)
          have rv : σ[i]? = some (some (vs[p]'(by omega))) := (rw'.get hpv hp).1
          cases s with
          | val w => cases hso
          | own c =>
            cases hso
            obtain ⟨a, e, n, o, q, k⟩ := h2
            subst e
            rw [h1] at rv
            have rv' := Option.some.inj (Option.some.inj rv)
            have hz' : zs[p]? = some (W.fresh c1) := by rw [hpz, hz1]
            obtain ⟨a', e', n'⟩ := told ho hpv hz'
            rw [← rv'] at e'
            cases e'
            exact ⟨a, h1, n', o, k⟩
          | ref c =>
            cases hso
            obtain ⟨a, e, n, o, q, k⟩ := h2
            subst e
            rw [h1] at rv
            have rv' := Option.some.inj (Option.some.inj rv)
            have hz' : zs[p]? = some (W.fresh c1) := by rw [hpz, hz1]
            obtain ⟨a', e', n'⟩ := told ho hpv hz'
            rw [← rv'] at e'
            cases e'
            exact ⟨a, h1, n', o, k⟩
      refine SRq.back (g := ⟨g'.G, g.O, g.B, g.E⟩) (gc := g') rfl S1 nd (fun i hi => ?_) rw' ha ho hb
      obtain ⟨p, hp⟩ := ownIx_mem hi
      have hpl : p < ws.length := (List.getElem?_eq_some_iff.mp hp).1
      have hpz : zs[p]? = some (zs[p]'(by omega)) := by simp [show p < zs.length by omega]
      obtain ⟨w, hw, hz⟩ := argsW_get ha hpz
      rw [hp] at hw
      cases hw
      obtain ⟨c1, _, hc1⟩ := argW_own hz
      obtain ⟨s, h3, _⟩ := cellAt_slot hc1
      exact ⟨s, h3⟩
theorem call_sem {gS g : Gh} {HS H : Hp} {σ : L2.St} {ρ : Env'} {vs : List V} {ws zs : List W} {r : FR} {Q : VK} (e1 : Ext gS HS g H) (S : SR X g σ H ρ) (rw' : RepWs X g σ HS H vs ws) (nd : (ownIx ws).Nodup) (ha : argsW ρ ws = some zs)
    (h : PostE X Wx gS σ HS (match r with
      | .ret w cs => match backE ws cs ρ with
        | some ρ' => some (.ok w ρ')
        | none => none
      | .ex c d cs => match backE ws cs ρ with
        | some ρ' => some (.ex c d ρ')
        | none => none) Q) :
    ArgsR X (calleeG g H vs zs) H vs zs ∧ PostF X (calleeG g H vs zs) H vs zs r Q (WE Wx σ) := by
  obtain ⟨AR, behind⟩ := call_back e1 S rw' nd ha
  refine ⟨AR, ?_⟩
  cases r with
  | ret w cs =>
    intro g' H' v x sub rr ho
    cases eb : backE ws cs ρ with
    | none => simp only [eb] at h; exact h.elim
    | some ρ' =>
      simp only [eb] at h
      obtain ⟨x1, S1⟩ := behind g' H' cs ρ' x sub ho eb
      refine h _ H' v x1 S1 ?_
      cases w with
      | dat d => exact ⟨rr, FreshIn.dat⟩
      | obj c fs => exact ⟨rr, FreshIn.obj⟩
      | scr ns => exact ⟨rr, FreshIn.scr⟩
      | own i => exact rr.elim
      | fresh c =>
        obtain ⟨a, ea, n, o, q, hn⟩ := rr
        refine ⟨⟨a, ea, n, fun z => S.ot a z hn, q⟩, fun _ b eb => ?_⟩
        rw [ea] at eb
        cases eb
        cases z : HS a with
        | none => rfl
        | some y => exact absurd hn (e1.al a (by rw [z]; exact fun q => by cases q))
  | ex c d cs =>
    intro g' H' cv da x sub ho xr
    cases eb : backE ws cs ρ with
    | none => simp only [eb] at h; exact h.elim
    | some ρ' =>
      simp only [eb] at h
      obtain ⟨x1, S1⟩ := behind g' H' cs ρ' x sub ho eb
      exact h _ H' cv da x1 S1 xr
end
end Py

namespace Py
open PySem PySem.Spec PyProof.Rows L2
/-- a value, in the callee's sight -/
def tM (X : Cx) (Wx : WX) (F : FS) (σ : L2.St) (vs : List V) (H : Hp) (Q : VK) : Prop := ∃ (g : Gh) (zs : List W) (r : FR), ArgsR X g H vs zs ∧ F zs = some r ∧ PostF X g H vs zs r Q (WE Wx σ)
theorem PassesAt.use {X : Cx} {Wx : WX} (cx : CtxOk X Wx) {pins : List (Addr × Obj)} {σ : L2.St} {H : Hp} {s s' : Shared} {e : Value} (I : Inv X pins σ H s) (c : L2.CX X.prog X.w X.stack H s (WE Wx σ) e s') : X.xe e s' := cx σ pins H s e s' I c
section
variable {X : Cx} {Wx : WX} {k : Nat} {f : Addr} {fd : FuncData} {ps : List Str} {F : FS}
theorem run_fnM {pins : List (Addr × Obj)} {σ : L2.St} {H : Hp} {s : Shared} {Q : VK} {args : Args} {us : List Value} {vs : List V} (Fm : FnM X.prog X.w X.K X.mg X.base k f fd ps F) (cx : CtxOk X Wx) (hg : X.A.guards = some []) (hr : Room k X.A)
    (I : Inv X pins σ H s) (rv : Vals vs us) (bd : BindsTo s fd args (ps.zip us)) (h : tM X Wx F σ vs H Q) : codeAny (model X.prog X.w) X.A (.call (.ref f) args) (fun r s' => match r with
      | .ok (.ret u) => EP X pins σ Q u s'
      | .ok _ => False
      | .error e => X.xe e s') s := by
  obtain ⟨g, zs, r, AR, hF, post⟩ := h
  refine codeAny_mono (Fm.run X rfl rfl X.A X.stack s H args us vs zs g r Q (WE Wx σ) hg hr I.env0 bd rv AR hF post) fun r s' hq => ?_
  cases r with
  | error e => exact PassesAt.use cx I hq
  | ok fl =>
    cases fl with
    | ret u => exact I.after hq
    | next => exact hq.elim
    | brk => exact hq.elim
    | cont => exact hq.elim
theorem call_of {pins : List (Addr × Obj)} {σ : L2.St} {s : Shared} {Q : VK} {us : List Value} {kw : List (Str × Value)} (h : codeAny (model X.prog X.w) X.A (.call (.ref f) ⟨us, kw⟩) (fun r s' => match r with
      | .ok (.ret u) => EP X pins σ Q u s'
      | .ok _ => False
      | .error e => X.xe e s') s) : wpAny (model X.prog X.w) X.A (call (.ref f) us kw) (EP X pins σ Q) X.xe s := by
  refine wpAny_call (codeAny_mono h fun r s' hq => ?_)
  cases r with
  | error e => exact hq
  | ok fl =>
    cases fl with
    | ret u => exact hq
    | next => exact hq.elim
    | brk => exact hq.elim
    | cont => exact hq.elim
/-! ### from arguments to the call -/
def permW : List Nat → List W → Option (List W)
  | [], _ => some []
  | i :: is, ws => match ws[i]? with
    | some w => match permW is ws with
      | some r => some (w :: r)
      | none => none
    | none => none
def fCallK (F : FS) (n m : Nat) (is : List Nat) (sa sk : AS) : ES := fun ρ => bnd (sa ρ) fun ws ρ => bnd (sk ρ) fun zs ρ => if ws.length = n ∧ zs.length = m then (match permW is (ws ++ zs) with
  | some xs => runCall F xs ρ
  | none => none) else none
theorem runCall_tM {gS g : Gh} {HS H : Hp} {σ : L2.St} {ρ : Env'} {vs : List V} {ws : List W} {Q : VK} (e1 : Ext gS HS g H) (S : SR X g σ H ρ) (rw' : RepWs X g σ HS H vs ws) (h : PostE X Wx gS σ HS (runCall F ws ρ) Q) : tM X Wx F σ vs H Q := by
  unfold runCall at h
  by_cases nd : (ownIx ws).Nodup
  · rw [if_pos nd] at h
    cases ea : argsW ρ ws with
    | none => rw [ea] at h; exact h.elim
    | some zs =>
      rw [ea] at h
      dsimp only at h
      cases ef : F zs with
      | none => rw [ef] at h; exact h.elim
      | some r =>
        rw [ef] at h
        obtain ⟨AR, post⟩ := call_sem (r := r) e1 S rw' nd ea (by cases r <;> exact h)
        exact ⟨_, zs, r, AR, ef, post⟩
  · rw [if_neg nd] at h; exact h.elim
def permV : List Nat → List V → Option (List V)
  | [], _ => some []
  | i :: is, vs => match vs[i]? with
    | some v => match permV is vs with
      | some r => some (v :: r)
      | none => none
    | none => none
theorem permW_get : ∀ {is : List Nat} {ws zs : List W} {p : Nat} {z : W}, permW is ws = some zs → zs[p]? = some z → ∃ i, is[p]? = some i ∧ ws[i]? = some z
  | [], _, _, p, z, h, hz => by cases h; simp at hz
  | i :: is, ws, zs, p, z, h, hz => by
    unfold permW at h
    cases e : ws[i]? with
    | none => rw [e] at h; cases h
    | some w =>
      rw [e] at h
      dsimp only at h
      cases e2 : permW is ws with
      | none => rw [e2] at h; cases h
      | some r =>
        rw [e2] at h
        cases h
        cases p with
        | zero =>
          have hz : w = z := by simpa using hz
          rw [← hz]
          exact ⟨i, rfl, e⟩
        | succ p => obtain ⟨j, h1, h2⟩ := permW_get (p := p) e2 (by simpa using hz); exact ⟨j, by simpa using h1, h2⟩
theorem RepWs.apart {g : Gh} {σ : L2.St} {HS H : Hp} {vs : List V} {ws : List W} (h : RepWs X g σ HS H vs ws) : ∀ {i j : Nat} {v : V} {w z : W}, i ≠ j → vs[i]? = some v → ws[i]? = some w → ws[j]? = some z → w.isFresh = true → z.isFresh = true → vs[j]? ≠ some v := by
  induction h with
  | nil => intro i j v w z _ h; simp at h
  | cons r f t n ih =>
    intro i j v w z hij h1 h2 h3 hw hz h4
    cases i with
    | zero =>
      cases j with
      | zero => exact hij rfl
      | succ j =>
        simp at h1 h2
        subst h1 h2
        exact n hw j _ z (by simpa using h4) (by simpa using h3) hz rfl
    | succ i =>
      cases j with
      | zero =>
        simp at h3 h4
        subst h3 h4
        exact n hz i _ w (by simpa using h1) (by simpa using h2) hw rfl
      | succ j => exact ih (i := i) (j := j) (by omega) (by simpa using h1) (by simpa using h2) (by simpa using h3) hw hz (by simpa using h4)
theorem RepWs.perm {g : Gh} {σ : L2.St} {HS H : Hp} {vs : List V} {ws : List W} (h : RepWs X g σ HS H vs ws) : ∀ {is : List Nat} {zs : List W}, is.Nodup → permW is ws = some zs → ∃ xs, permV is vs = some xs ∧ RepWs X g σ HS H xs zs
  | [], zs, _, e => by cases e; exact ⟨[], rfl, .nil⟩
  | i :: is, zs, nd, e => by
    have hl := h.length
    unfold permW at e
    cases ew : ws[i]? with
    | none => rw [ew] at e; cases e
    | some w =>
      rw [ew] at e
      dsimp only at e
      cases e2 : permW is ws with
      | none => rw [e2] at e; cases e
      | some r =>
        rw [e2] at e
        cases e
        obtain ⟨xs, e3, r3⟩ := RepWs.perm h (List.nodup_cons.mp nd).2 e2
        have hi : i < ws.length := (List.getElem?_eq_some_iff.mp ew).1
        have ev : vs[i]? = some (vs[i]'(by omega)) := by simp [show i < vs.length by omega]
        obtain ⟨r1, f1⟩ := h.get ev ew
        refine ⟨vs[i]'(by omega) :: xs, by unfold permV; rw [ev, e3], .cons r1 f1 r3 fun hf p u z hu hz hzf eq => ?_⟩
        obtain ⟨j, h1, h2⟩ := permW_get e2 hz
        have getu : ∀ {is : List Nat} {xs : List V} {p : Nat} {u : V}, permV is vs = some xs → xs[p]? = some u → ∃ i, is[p]? = some i ∧ vs[i]? = some u := by
          intro is
          induction is with
          | nil => intro xs p u h hz; cases h; simp at hz
          | cons i is ih =>
            intro xs p u h hz
            unfold permV at h
            cases e : vs[i]? with
            | none => rw [e] at h; cases h
            | some w =>
              rw [e] at h
              dsimp only at h
              cases e2 : permV is vs with
              | none => rw [e2] at h; cases h
              | some r =>
                rw [e2] at h
                cases h
                cases p with
                | zero =>
                  have hz : w = u := by simpa using hz
                  rw [← hz]
                  exact ⟨i, rfl, e⟩
                | succ p => obtain ⟨j, h1, h2⟩ := ih (p := p) e2 (by simpa using hz); exact ⟨j, by simpa using h1, h2⟩
        obtain ⟨j', h3, h4⟩ := getu e3 hu
        rw [h1] at h3
        cases h3
        have ne : i ≠ j := fun z => (List.nodup_cons.mp nd).1 (by rw [z]; exact List.mem_of_getElem? h1)
        exact RepWs.apart h ne ev ew h2 hf hzf (by rw [h4, eq])
/-! ### the call's expressions -/
variable {x : Str} {p pos : Pos} {e : Expr} {es : List Expr} {sa sk : AS} {kws : List Keyword}
theorem okCall (Fm : FnM X.prog X.w X.K X.mg X.base k f fd ps F) (cx : CtxOk X Wx) (hgd : X.A.guards = some []) (hr : Room k X.A) (hg : Gl X x) (hm : X.mg x = some (.ref f)) (hk : PySem.W.keepIn X.K (.ref f) = true) (hb : Binds X.K fd ps [])
    (ha : OkA X Wx (e :: es) sa) (hdb : (x == ("__debug__" : Str)) = false := by decide) (he : starEach (e :: es) X.env = (false, eval e X.env) :: starEach es X.env := by rfl) (hpl : (backTo pos (starEach es X.env)).any (·.1) = false := by rfl) :
    OkE X Wx (.Call (.Name x p) (e :: es) [] pos) (fCall F sa) := by
  obtain ⟨t, pa, q⟩ := ha
  refine ⟨fun σ H Q => t σ H fun vs H1 => tM X Wx F σ vs H1 Q, ⟨fun pins s σ H Q I h => ?_⟩, fun g σ H ρ Q S h => q g σ H ρ _ S (PostG.at (Ext.refl _ _) h ?_)⟩
  · refine wpAny_Call_Name_kw (ld_glob I hg hm ?_ hdb)
    refine PySem.W.callWith_K (h₀ := X.base) I.ok.mod.kin hk (thn (pa.run pos pins s σ H _ I h) fun us s1 ⟨vs, H1, I1, r, q⟩ => ⟨I1.kIn, ?_⟩) he hpl
    have hl : us.length = ps.length := by
      obtain ⟨_, _, _, AR, hF, _⟩ := q
      rw [← r.length, AR.len, Fm.len _ _ hF]
    have b := hb s1 us I1.kIn (by rw [List.append_nil]; exact hl)
    rw [List.append_nil] at b
    exact call_of (run_fnM Fm cx hgd hr I1 r b q)
  · intro ws ρ1 g1 H1 vs _ e1 S1 r1 h1
    exact runCall_tM e1 S1 r1 h1
theorem okCall0 (Fm : FnM X.prog X.w X.K X.mg X.base k f fd [] F) (cx : CtxOk X Wx) (hgd : X.A.guards = some []) (hr : Room k X.A) (hg : Gl X x) (hm : X.mg x = some (.ref f)) (hk : PySem.W.keepIn X.K (.ref f) = true) (hb : Binds X.K fd [] [])
    (hdb : (x == ("__debug__" : Str)) = false := by decide) : OkE X Wx (.Call (.Name x p) [] [] pos) (fCall F nilS) := by
  refine ⟨fun σ H Q => tM X Wx F σ [] H Q, ⟨fun pins s σ H Q I h => ?_⟩, fun g σ H ρ Q S h => ?_⟩
  · refine wpAny_Call_Name_kw (ld_glob I hg hm ?_ hdb)
    have b := hb s [] I.kIn rfl
    exact PySem.W.callWith_K0 I.kIn hk (call_of (run_fnM Fm cx hgd hr I .nil b h))
  · exact runCall_tM (Ext.refl _ _) S .nil h
def OkK (X : Cx) (Wx : WX) (kws : List Keyword) (s : AS) : Prop := ∃ t, PK X kws t ∧ TrA X Wx t s
theorem okK_nil : OkK X Wx [] nilS := ⟨_, pk_nil, fun g σ H ρ Q S h => h g H [] (Ext.refl _ _) S .nil⟩
theorem tr_cons {te : TE} {tr : TA} {s : ES} {r : AS} (q : TrE X Wx te s) (q' : TrA X Wx tr r) : TrA X Wx (tCons te tr) (consS s r) := by
  intro g σ H ρ Q S h
  refine q g σ H ρ _ S (PostG.at (Ext.refl _ _) h ?_)
  intro w ρ1 g1 H1 x _ e1 S1 r1 h1
  refine q' g1 σ H1 ρ1 _ S1 (PostG.at e1 h1 ?_)
  intro ws ρ2 g2 H2 xs _ e2 S2 r2 h2
  refine h2 g2 H2 (x :: xs) (e1.trans e2) S2 (.cons (r1.1.ext e2) r1.2 (later_A _ _ _ _ _ _ _ _ e1 r2) fun hf i u z hu hz hzf e => ?_)
  cases w with
  | fresh c =>
    obtain ⟨a, ex, n, o, q⟩ := r1.1
    obtain ⟨y, hy⟩ := q.some
    have hn := (RepWs.get r2 hu hz).2 hzf a (by rw [← e, ex])
    rw [hn] at hy
    cases hy
  | _ => cases hf
theorem okK_cons {nm : Option Str} {kpos : Pos} {s : ES} {r : AS} (he : OkE X Wx e s) (hr : OkK X Wx kws r) : OkK X Wx (⟨nm, e, kpos⟩ :: kws) (consS s r) := let ⟨_, p, q⟩ := he; let ⟨_, p', q'⟩ := hr; ⟨_, pk_cons p p', tr_cons q q'⟩
def permU : List Nat → List Value → Option (List Value)
  | [], _ => some []
  | i :: is, vs => match vs[i]? with
    | some v => match permU is vs with
      | some r => some (v :: r)
      | none => none
    | none => none
/-- how a call with keywords binds: the parameters in their order are the given values by is -/
structure KB (K : PySem.W.Frag) (fd : FuncData) (ps ks : List Str) (n : Nat) (is : List Nat) : Prop where
  nd : is.Nodup
  to : ∀ (s : Shared) (us ws zs : List Value), K.In s.heap → us.length = n → ws.length = ks.length → permU is (us ++ ws) = some zs → BindsTo s fd ⟨us, ks.zip ws⟩ (ps.zip zs)
theorem perm_vals {is : List Nat} : ∀ {vs xs : List V} {us : List Value}, Vals vs us → permV is vs = some xs → ∃ zs, permU is us = some zs ∧ Vals xs zs := by
  induction is with
  | nil => intro vs xs us _ h; cases h; exact ⟨[], rfl, .nil⟩
  | cons i is ih =>
    intro vs xs us r h
    unfold permV at h
    cases e : vs[i]? with
    | none => rw [e] at h; cases h
    | some v =>
      rw [e] at h
      dsimp only at h
      cases e2 : permV is vs with
      | none => rw [e2] at h; cases h
      | some ys =>
        rw [e2] at h
        cases h
        obtain ⟨zs, h1, h2⟩ := ih r e2
        obtain ⟨u, h3, h4⟩ := r.get e
        exact ⟨u :: zs, by unfold permU; rw [h3, h1], .cons h4 h2⟩
theorem RepWs.app {g : Gh} {σ : L2.St} {HS H : Hp} {vs xs : List V} {ws zs : List W} (h : RepWs X g σ HS H vs ws) (h2 : RepWs X g σ HS H xs zs) (ap : ∀ (i j : Nat) (v u : V) (w z : W), vs[i]? = some v → ws[i]? = some w → xs[j]? = some u → zs[j]? = some z → w.isFresh = true → z.isFresh = true → v ≠ u) :
    RepWs X g σ HS H (vs ++ xs) (ws ++ zs) := by
  induction h with
  | nil => exact h2
  | cons r f t n ih =>
    rename_i v w vs ws
    refine .cons r f (ih fun i j v u w z h1 h3 => ap (i + 1) j v u w z (by simpa using h1) (by simpa using h3)) fun hf i u z hu hz hzf e => ?_
    have hl := t.length
    have hu : (vs ++ xs)[i]? = some u := hu
    have hz : (ws ++ zs)[i]? = some z := hz
    by_cases hi : i < vs.length
    · rw [List.getElem?_append_left hi] at hu
      rw [List.getElem?_append_left (by omega)] at hz
      exact n hf i u z hu hz hzf e
    · rw [List.getElem?_append_right (by omega)] at hu
      rw [List.getElem?_append_right (by omega), ← hl] at hz
      exact ap 0 (i - vs.length) v u w z rfl rfl hu hz hf hzf e
theorem permV_len {is : List Nat} : ∀ {vs xs : List V}, permV is vs = some xs → xs.length = is.length := by
  induction is with
  | nil => intro vs xs h; cases h; rfl
  | cons i is ih =>
    intro vs xs h
    unfold permV at h
    cases e : vs[i]? with
    | none => rw [e] at h; cases h
    | some v =>
      rw [e] at h
      dsimp only at h
      cases e2 : permV is vs with
      | none => rw [e2] at h; cases h
      | some ys => rw [e2] at h; cases h; simp [ih e2]
/-- the reading of a call with keywords -/
def tKw (X : Cx) (Wx : WX) (F : FS) (n m : Nat) (is : List Nat) (t t' : TA) : TE := fun σ H Q => t σ H fun vs H1 => t' σ H1 fun zs H2 => vs.length = n ∧ zs.length = m ∧ ∃ xs, permV is (vs ++ zs) = some xs ∧ tM X Wx F σ xs H2 Q
theorem tr_kw {n m : Nat} {is : List Nat} {t t' : TA} (nd : is.Nodup) (q : TrA X Wx t sa) (q' : TrA X Wx t' sk) : TrE X Wx (tKw X Wx F n m is t t') (fCallK F n m is sa sk) := by
  intro g σ H ρ Q S h
  refine q g σ H ρ _ S (PostG.at (Ext.refl _ _) h ?_)
  intro ws ρ1 g1 H1 vs _ x1 S1 r1 h1
  refine q' g1 σ H1 ρ1 _ S1 (PostG.at x1 h1 ?_)
  intro zs ρ2 g2 H2 us _ x2 S2 r2 h2
  have r1' : RepWs X g2 σ H H2 vs ws := by
    have go : ∀ {vs : List V} {ws : List W}, RepWs X g1 σ H H1 vs ws → RepWs X g2 σ H H2 vs ws := by
      intro vs ws t
      induction t with
      | nil => exact .nil
      | cons r f _ n ih => exact .cons (r.ext x2) f ih n
    exact go r1
  have all := r1'.app (later_A _ _ _ _ _ _ _ _ x1 r2) fun i j v u w z k1 k2 k3 k4 hw hz e => by
    obtain ⟨rv, _⟩ := RepWs.get r1 k1 k2
    obtain ⟨_, fz⟩ := RepWs.get r2 k3 k4
    cases w with
    | fresh c =>
      obtain ⟨a, ea, _, _, q⟩ := rv
      obtain ⟨y, hy⟩ := q.some
      have := fz hz a (by rw [← e, ea])
      rw [this] at hy
      cases hy
    | _ => cases hw
  by_cases hl : ws.length = n ∧ zs.length = m
  · rw [if_pos hl] at h2
    cases ep : permW is (ws ++ zs) with
    | none => rw [ep] at h2; exact h2.elim
    | some zs' =>
      rw [ep] at h2
      obtain ⟨xs, ex, rx⟩ := all.perm nd ep
      exact ⟨by rw [r1.length]; exact hl.1, by rw [r2.length]; exact hl.2, xs, ex, runCall_tM (x1.trans x2) S2 rx h2⟩
  · rw [if_neg hl] at h2
    exact h2.elim
theorem okCallK {ks : List Str} {is : List Nat} {n m : Nat} (Fm : FnM X.prog X.w X.K X.mg X.base k f fd ps F) (cx : CtxOk X Wx) (hgd : X.A.guards = some []) (hr : Room k X.A) (hg : Gl X x) (hm : X.mg x = some (.ref f)) (hk : PySem.W.keepIn X.K (.ref f) = true) (hb : KB X.K fd ps ks n is)
    (ha : OkA X Wx (e :: es) sa) (hkw : OkK X Wx kws sk) (hkl : ks.length = m) (hall : (backToKw pos (keywordEach kws X.env)).all (·.1.isSome) = true := by rfl) (hks : (backToKw pos (keywordEach kws X.env)).filterMap (·.1) = ks := by rfl)
    (hdb : (x == ("__debug__" : Str)) = false := by decide) (he : starEach (e :: es) X.env = (false, eval e X.env) :: starEach es X.env := by rfl)
    (hpl : ((backTo pos (starEach (e :: es) X.env)).any (·.1) || (backToKw pos (keywordEach kws X.env)).any (·.1.isNone)) = false := by rfl) : OkE X Wx (.Call (.Name x p) (e :: es) kws pos) (fCallK F n m is sa sk) := by
  obtain ⟨t, pa, q⟩ := ha
  obtain ⟨t', pk, q'⟩ := hkw
  refine ⟨tKw X Wx F n m is t t', ⟨fun pins s σ H Q I h => ?_⟩, tr_kw hb.nd q q'⟩
  refine wpAny_Call_Name_kw (ld_glob I hg hm ?_ hdb)
  refine PySem.W.callWith_KW (h₀ := X.base) I.ok.mod.kin hk hall (thn (pa.run pos pins s σ H _ I h) fun us s1 ⟨vs, H1, I1, r, q⟩ => ?_) hpl he
  refine thn (pk.run pos pins s1 σ H1 _ I1 q) fun ws s2 ⟨zs, H2, I2, rz, hl1, hl2, xs, ex, q2⟩ => ⟨I2.kIn, ?_⟩
  rw [hks]
  obtain ⟨ys, ey, ry⟩ := perm_vals (r.append rz) ex
  exact call_of (run_fnM Fm cx hgd hr I2 ry (hb.to s2 us ws ys I2.kIn (by rw [← r.length]; exact hl1) (by rw [← rz.length, hl2, hkl]) ey) q2)
theorem okCallK0 {ks : List Str} {is : List Nat} {m : Nat} (Fm : FnM X.prog X.w X.K X.mg X.base k f fd ps F) (cx : CtxOk X Wx) (hgd : X.A.guards = some []) (hr : Room k X.A) (hg : Gl X x) (hm : X.mg x = some (.ref f)) (hk : PySem.W.keepIn X.K (.ref f) = true) (hb : KB X.K fd ps ks 0 is)
    (hkw : OkK X Wx kws sk) (hkl : ks.length = m) (hall : (backToKw pos (keywordEach kws X.env)).all (·.1.isSome) = true := by rfl) (hks : (backToKw pos (keywordEach kws X.env)).filterMap (·.1) = ks := by rfl)
    (hdb : (x == ("__debug__" : Str)) = false := by decide) (hpl : ((backTo pos (starEach [] X.env)).any (·.1) || (backToKw pos (keywordEach kws X.env)).any (·.1.isNone)) = false := by rfl) :
    OkE X Wx (.Call (.Name x p) [] kws pos) (fCallK F 0 m is nilS sk) := by
  obtain ⟨t', pk, q'⟩ := hkw
  refine ⟨tKw X Wx F 0 m is tNil t', ⟨fun pins s σ H Q I h => ?_⟩, tr_kw hb.nd (fun g σ H ρ Q S h => h g H [] (Ext.refl _ _) S .nil) q'⟩
  refine wpAny_Call_Name_kw (ld_glob I hg hm ?_ hdb)
  refine PySem.W.callWith_KW0 (h₀ := X.base) I.ok.mod.kin hk hall ?_ hpl
  refine thn (pk.run pos pins s σ H _ I h) fun ws s2 ⟨zs, H2, I2, rz, hl1, hl2, xs, ex, q2⟩ => ⟨I2.kIn, ?_⟩
  rw [hks]
  obtain ⟨ys, ey, ry⟩ := perm_vals (us := [] ++ ws) (Vals.append .nil rz) ex
  exact call_of (run_fnM Fm cx hgd hr I2 ry (hb.to s2 [] ws ys I2.kIn rfl (by rw [← rz.length, hl2, hkl]) ey) q2)
end
/-! ### contexts -/
section
variable {P : Program} {w : World} {K : PySem.W.Frag} {mg : Str → Option Value} {base : Heap} {N : List Str} {qual : Str} {st : Stmt} {f : Addr} {cdv : Value} {A : Around} {outer : List Env} {s : Shared} {H : Hp} {E : XK}
theorem ctx_body : CtxOk (bodyX P w K mg base N qual st f cdv A outer s H E) (wxF E) := passAt (takes_of rfl rfl rfl rfl)
theorem own_body : PassesOwn (model (bodyX P w K mg base N qual st f cdv A outer s H E).prog (bodyX P w K mg base N qual st f cdv A outer s H E).w) (bodyX P w K mg base N qual st f cdv A outer s H E).A (bodyX P w K mg base N qual st f cdv A outer s H E).env
    (bodyX P w K mg base N qual st f cdv A outer s H E).xe := PassesOwn.leaving
theorem ctx_WF {X : Cx} : CtxOk X WF := fun σ pins H s e s' I c => by
  obtain ⟨_, _, _, _, _, _, _, _, _, _, _, _, z⟩ := c
  exact z.elim
end
end Py

namespace Py
open PySem PySem.Spec PyProof.Rows L2
/-! ### the law's own call -/
def emptyScope : Scope := { kind := .function, names := [], isGenerator := false, isCoroutine := false }
section
variable {P : Program} {w : World} {K : PySem.W.Frag} {mg mb : Str → Option Value} {k : Nat} {fa a : Addr} {fd : FuncData} {x : Str} {s1 : Shared} {vs : List Value} {ns : List Int} {F : FS}
/-- the heap in which at most the script is told, frozen -/
def scrH (a : Addr) (vs : List Value) (ns : List Int) : Hp := fun b => if b = a then some (.frz { cls := .type "list", data := .seq vs.toArray } (.lst (ns.map V.int))) else none
theorem enter (KX : K.In s1.heap) (hns : s1.heap.Ns mainGlobals mg) (hmb : s1.heap.Ns builtinsNs mb) (hbb : ∀ x : Str, x ≠ "__name__" → mb x = bootBuiltins x) (hlim : s1.heap.NoLimit) (hgens : s1.gens = #[])
    (hr : Room k callerA) (Fm : ∀ base : Heap, K.In base → base.Ns mainGlobals mg → FnM P w K mg base k fa fd [x] F) (hb : ∀ (s : Shared) (u : Value), BindsTo s fd ⟨[u], []⟩ [(x, u)]) (hF : F [.scr (.sc ns)] = some (.ret (.dat (.bool true)) []))
    (H : Hp) (hS : SqL K H a (ns.map V.int)) (hok : HOk P w H s1.heap) (only : ∀ b y, H b = some y → b = a ∧ ∃ o xs, y = .frz o xs) (nodict : ∀ o, s1.heap.get? a = some o → H a ≠ none → ∀ es ep, o.data ≠ .dict es ep) (hK : H a ≠ none → K.lookup a = none) :
    codeAny (model P w) callerA (.call (.ref fa) ⟨[.ref a], []⟩) (fun r s' => r = .ok (.ret (.bool true)) ∧ OldK s1.heap s'.heap ∧ s'.os = s1.os ∧ AllBare s'.gens) s1 := by
  have free : ∀ {b : Addr}, b ≠ a → H b = none := fun {b} ne => by
    cases q : H b with
    | none => rfl
    | some y => exact absurd (only b y q).1 ne
  have nsB : ∀ {b : Addr} {m : Str → Option Value}, s1.heap.Ns b m → (hidT s1.heap H).Ns b m := by
    rintro b m ⟨o, es, ep, h1, h2, h3⟩
    refine ⟨o, es, ep, hidT_get h1 ?_, h2, h3⟩
    by_cases e : b = a
    · subst e
      cases q : H b with
      | none => rfl
      | some y => exact absurd h2 (nodict o h1 (by rw [q]; exact fun z => by cases z) es ep)
    · exact free e
  have KB0 : K.In (hidT s1.heap H) := by
    intro b o hbo
    refine hidT_get (KX b o hbo) ?_
    by_cases e : b = a
    · subst e
      cases q : H b with
      | none => rfl
      | some y => rw [hK (by rw [q]; exact fun z => by cases z)] at hbo; cases hbo
    · exact free e
  have noMem : ∀ b : Addr, b ∉ (frs [] : List Addr) := fun b hb => by cases hb
  obtain ⟨mc, l1, l2⟩ := hlim
  have e0 : Env0 P w K mg (hidT s1.heap H) callerA [] s1 H :=
    { frames := rfl, mod := ⟨KB0, nsB hns, ⟨mb, nsB hmb, hbb⟩, ⟨mc, nsB l1, l2⟩⟩, bs := fun b o e => of_hidT e, bsz := Nat.le_of_eq (hidT_size _ _), funs := trivial, frf := fun b hb => absurd hb (noMem b), hok := hok, bare := .of_eq hgens }
  let X : Cx := cxOf (L2.CX P w) P w K mg (hidT s1.heap H) [] Str.empty emptyScope fa .none callerA [] s1 H fun _ _ _ => False
  let g : Gh := ⟨H, fun _ => False, fun _ => none, H⟩
  have AR : ArgsR X g H [.ref a] [.scr (.sc ns)] := by
    refine ⟨⟨fun _ _ h _ => h, fun k t h => by obtain ⟨_, o, xs, e⟩ := only k _ h; cases e⟩, rfl, fun i v w hv hw => ?_, fun i j v w z hij hv hw hz hf => ?_, fun b hb => hb.elim, rfl⟩
    · cases i with
      | zero =>
        have hv : V.ref a = v := by simpa using hv
        have hw : W.scr (.sc ns) = w := by simpa using hw
        subst hv hw
        exact ⟨a, rfl, hS⟩
      | succ i => simp at hv
    · cases i with
      | zero =>
        have hw : W.scr (.sc ns) = w := by simpa using hw
        subst hw
        cases hf
      | succ i => simp at hw
  refine codeAny_mono ((Fm _ KB0 (nsB hns)).run X rfl rfl callerA [] s1 H ⟨[.ref a], []⟩ [.ref a] [.ref a] [.scr (.sc ns)] g _ (fun v _ => v = .bl true) (fun _ _ _ => False) rfl hr e0 (hb s1 (.ref a)) (.cons rfl .nil) AR hF ?_) ?_
  · intro g' H' v _ _ rr _
    cases (show Rep K g'.G v (.bool true) from rr)
    rfl
  · intro r s' h
    cases r with
    | error e =>
      obtain ⟨_, _, _, _, _, _, _, _, _, _, _, _, z⟩ := (show L2.CX P w [] H s1 (fun _ _ _ => False) e s' from h)
      exact z.elim
    | ok fl =>
      cases fl with
      | ret u =>
        obtain ⟨v, H', hos, hbare, un, hok2, rv, rfl⟩ := h
        obtain rfl : u = Value.bool true := rv
        refine ⟨rfl, OldK.of_keep ?_, hos, hbare⟩
        intro b o hbo
        cases q : H b with
        | none => exact un.keep b o hbo q (noMem b) (by simp)
        | some y =>
          obtain ⟨_, ob, xs, rfl⟩ := only b y q
          have h1 := (hok b _ q).1
          have h2 := (hok2 b _ (un.frzs b ob _ q)).1
          rw [hbo] at h1
          cases h1
          exact h2
      | next => exact False.elim h
      | brk => exact False.elim h
      | cont => exact False.elim h
/-- from the script's object -/
theorem enterScript (KX : K.In s1.heap) (hns : s1.heap.Ns mainGlobals mg) (hmb : s1.heap.Ns builtinsNs mb) (hbb : ∀ x : Str, x ≠ "__name__" → mb x = bootBuiltins x) (hlim : s1.heap.NoLimit) (hgens : s1.gens = #[])
    (ha : s1.heap.get? a = some { cls := .type "list", data := .seq vs.toArray }) (hi : IntsAre vs ns) (hl : ns.length ≤ sizeLine) (hr : Room k callerA) (Fm : ∀ base : Heap, K.In base → base.Ns mainGlobals mg → FnM P w K mg base k fa fd [x] F)
    (hb : ∀ (s : Shared) (u : Value), BindsTo s fd ⟨[u], []⟩ [(x, u)]) (hF : F [.scr (.sc ns)] = some (.ret (.dat (.bool true)) [])) :
    codeAny (model P w) callerA (.call (.ref fa) ⟨[.ref a], []⟩) (fun r s' => r = .ok (.ret (.bool true)) ∧ OldK s1.heap s'.heap ∧ s'.os = s1.os ∧ AllBare s'.gens) s1 := by
  have rv := vals_ints hi
  have hlv := hi.length
  cases hk : K.lookup a with
  | some o =>
    have e := (KX a o hk).symm.trans ha
    have e := Option.some.inj e
    subst e
    exact enter KX hns hmb hbb hlim hgens hr Fm hb hF (fun _ => none) (.inr ⟨_, vs.toArray, _, hk, rfl, rfl, rfl, by rw [List.size_toArray, hlv]; exact hl, by simpa using rv⟩) (fun b y z => by have z' : (none : Option HO) = some y := z; cases z') (fun b y z => by have z' : (none : Option HO) = some y := z; cases z')
      (fun _ _ z => absurd rfl z) fun z => absurd rfl z
  | none =>
    have at_a : scrH a vs ns a = some (.frz { cls := .type "list", data := .seq vs.toArray } (.lst (ns.map V.int))) := if_pos rfl
    refine enter KX hns hmb hbb hlim hgens hr Fm hb hF (scrH a vs ns) (.inl (.inr ⟨_, at_a⟩)) (fun b y z => ?_) (fun b y z => ?_) (fun o ho _ es ep d => ?_) fun _ => hk
    · by_cases e : b = a
      · subst e
        rw [at_a] at z
        cases z
        exact ⟨ha, by rw [List.length_map]; exact hl, vs, _, rv, ha⟩
      · have z' : (none : Option HO) = some y := (if_neg e).symm.trans z
        cases z'
    · by_cases e : b = a
      · subst e
        rw [at_a] at z
        cases z
        exact ⟨rfl, _, _, rfl⟩
      · have z' : (none : Option HO) = some y := (if_neg e).symm.trans z
        cases z'
    · rw [ha] at ho
      cases ho
      cases d
end
theorem walkM {l : PySem.W.OpenLaw} {n k : Nat} {q : Program} {loose : List Str} {XP : (Str → Option Value) → Heap → Prop} {YP : World → Heap → Prop} {d : DefRec} {K : Params → PySem.W.Frag} {x : Str}
    (hn : l.most = some n) (hn2 : n ≤ sizeLine) (hdf : d.params.defaults = []) (hr : Room k callerA) (hY : ∀ (w : World) (h : Heap), YP w h → (K w.params).In h)
    (F : ∀ (w : World) (mg : Str → Option Value) (fa : Addr) (h : Heap), (K w.params).In h → h.Ns mainGlobals mg → mg d.name = some (.ref fa) → ∃ (fd : FuncData) (Fs : FS), (∀ (s : Shared) (u : Value), BindsTo s fd ⟨[u], []⟩ [(x, u)]) ∧
      (∀ base : Heap, (K w.params).In base → base.Ns mainGlobals mg → FnM l.prog w (K w.params) mg base k fa fd [x] Fs) ∧ ∀ ns : List Int, ns.length ≤ n → (∀ z ∈ ns, Builtin.Int.intBits z ≤ 1048576) → Fs [.scr (.sc ns)] = some (.ret (.dat (.bool true)) [])) :
    PySem.W.WalkO q loose XP YP l.row.toRowW d [] (fun f vs => PySem.call f vs) := by
  refine Att.attach_callB hn hdf fun w s0 s1 mg mb fa o pm cd doc a vs ns G Y ho hd hcd hmg hobj hints hlen hbits hg => ?_
  have KX := hY w _ Y
  obtain ⟨fd, Fs, hb, hFm, hF⟩ := F w mg fa _ KX G.T.g hmg
  exact enterScript KX G.T.g G.T.b G.T.builtins G.T.nolimit hg hobj hints (Nat.le_trans hlen hn2) hr hFm hb (hF ns hlen hbits)
end Py

namespace Py
open PySem PySem.Spec PyProof.Rows L2
/-! ### any value seen as data -/
def cellD : Cell → Option D
  | .lst ds => some (.list ds)
  | .dct [] => some (.dict [])
  | _ => none
def view (ρ : Env') : W → Option D
  | .dat d => some d
  | .fresh c => cellD c
  | .own i => (cellAt ρ i).bind cellD
  | _ => none
inductive RepV (K : PySem.W.Frag) (G H : Hp) : V → D → Prop
  | non : RepV K G H .non .none
  | bl (b : Bool) : RepV K G H (.bl b) (.bool b)
  | int (i : Int) : RepV K G H (.int i) (.int i)
  | str (x : Str) : RepV K G H (.str x) (.str x)
  | lst {a : Addr} {xs : List V} {ds : List D} : H a = some (.lst xs) → RepAll K G xs ds → RepV K G H (.ref a) (.list ds)
  | tup {a : Addr} {xs : List V} {ds : List D} : G a = some (.tup xs) → H a = some (.tup xs) → RepAll K G xs ds → RepV K G H (.ref a) (.tuple ds)
  | dic {a : Addr} {ks : List (Key × V)} {kvs : List (D × D)} : H a = some (.dK ks) → kvs.map (·.1) = ks.map (fun p => keyD p.1) → RepAll K G (ks.map (·.2)) (kvs.map (·.2)) → RepV K G H (.ref a) (.dict kvs)
section
variable {X : Cx} {Wx : WX} {g : Gh} {σ : L2.St} {H : Hp} {ρ : Env'} {v : V} {w : W} {d : D}
theorem Rep.view {G : Hp} (e : Sm G H) (h : Rep X.K G v d) : RepV X.K G H v d := by
  cases h with
  | non => exact .non
  | bl b => exact .bl b
  | int i => exact .int i
  | str x => exact .str x
  | lst h r => exact .lst (e _ _ h rfl) r
  | tup h r => exact .tup h (e _ _ h rfl) r
  | dic h k r => exact .dic (e _ _ h rfl) k r
theorem RepV.rep {G : Hp} (e : Sm G H) (h : RepV X.K G H v d) : Rep X.K H v d := by
  cases h with
  | non => exact .non
  | bl b => exact .bl b
  | int i => exact .int i
  | str x => exact .str x
  | lst h r => exact .lst h (r.smono e)
  | tup _ h r => exact .tup h (r.smono e)
  | dic h k r => exact .dic h k (r.smono e)
theorem cellR_view {a : Addr} {c : Cell} (q : CellR X g.G H a c) (h : cellD c = some d) : RepV X.K g.G H (.ref a) d := by
  cases c with
  | lst ds =>
    cases h
    obtain ⟨vs, h1, h2⟩ := q
    exact .lst h1 h2
  | dct kvs =>
    cases kvs with
    | nil =>
      cases h
      obtain ⟨ks, h1, h2⟩ := q
      cases h2
      exact .dic h1 rfl .nil
    | cons _ _ => cases h
  | ins c fs => cases h
  | dtt ks => cases h
theorem view_rep (S : SR X g σ H ρ) (r : RepW X g σ H v w) (h : view ρ w = some d) : RepV X.K g.G H v d := by
  cases w with
  | dat d' => cases h; exact Rep.view S.sub.1 r
  | obj c fs => cases h
  | scr ns => cases h
  | fresh c =>
    obtain ⟨a, rfl, _, _, q⟩ := r
    exact cellR_view q h
  | own i =>
    cases e : cellAt ρ i with
    | none => simp only [view, e] at h; cases h
    | some c =>
      simp only [view, e] at h
      obtain ⟨a, ha, _, _, q⟩ := S.cell e
      have r : σ[i]? = some (some v) := r
      rw [ha] at r
      cases r
      exact cellR_view q h
end
/-! ### operators on data -/
def d1 (f : D → Option D) : W → Env' → Option (R W) := fun a ρ => match view ρ a with
  | some x => match f x with
    | some d => some (.ok (.dat d) ρ)
    | none => none
  | none => none
def d2 (f : D → D → Option D) : W → W → Env' → Option (R W) := fun a b ρ => match view ρ a with
  | some x => match view ρ b with
    | some y => match f x y with
      | some d => some (.ok (.dat d) ρ)
      | none => none
    | none => none
  | none => none
/-- one whose result is a new list -/
def l1 (f : D → Option (List D)) : W → Env' → Option (R W) := fun a ρ => match view ρ a with
  | some x => match f x with
    | some d => some (.ok (.fresh (.lst d)) ρ)
    | none => none
  | none => none
section
variable {X : Cx} {Wx : WX}
theorem sem1_d {r : V → Hp → VK → Prop} {f : D → Option D} (h : ∀ G H x a d Q, Sm G H → RepV X.K G H x a → f a = some d → (∀ v, Rep X.K G v d → Q v H) → r x H Q) : Sem1 X Wx r (d1 f) := by
  intro g σ H ρ x w Q S rx p
  unfold d1 at p
  split at p
  · rename_i a ea
    split at p
    · rename_i d ed
      exact h g.G H x a d Q S.sub.1 (view_rep S rx ea) ed fun v r => PostE.dat S p r
    · exact p.elim
  · exact p.elim
theorem sem2_d {r : R2} {f : D → D → Option D} (h : ∀ G H x y a b d Q, Sm G H → RepV X.K G H x a → RepV X.K G H y b → f a b = some d → (∀ v, Rep X.K G v d → Q v H) → r x y H Q) : Sem2 X Wx r (d2 f) := by
  intro g σ H ρ x y w z Q S rx ry p
  unfold d2 at p
  split at p
  · rename_i a ea
    split at p
    · rename_i b eb
      split at p
      · rename_i d ed
        exact h g.G H x y a b d Q S.sub.1 (view_rep S rx ea) (view_rep S ry eb) ed fun v r => PostE.dat S p r
      · exact p.elim
    · exact p.elim
  · exact p.elim
/-- two ints -/
def iF (c : Int → Int → Bool) (f : Int → Int → D) : D → D → Option D := fun a b => match a, b with
  | .int i, .int j => if c i j then some (f i j) else none
  | _, _ => none
theorem sem_int {c : Int → Int → Bool} {C : Int → Int → Prop} {f : Int → Int → D} {gv : Int → Int → V} (hc : ∀ i j, c i j = true → C i j) (hr : ∀ (K : PySem.W.Frag) (G : Hp) i j, Rep K G (gv i j) (f i j)) : Sem2 X Wx (rI C gv) (d2 (iF c f)) :=
  sem2_d fun G H x y a b d Q e ra rb h k => by
    unfold iF at h
    split at h
    · split at h
      · rename_i hh
        cases h
        cases ra
        cases rb
        exact ⟨_, _, rfl, rfl, hc _ _ hh, k _ (hr _ _ _ _)⟩
      · cases h
    · cases h
theorem sem_int0 {f : Int → Int → D} {gv : Int → Int → V} (hr : ∀ (K : PySem.W.Frag) (G : Hp) i j, Rep K G (gv i j) (f i j)) : Sem2 X Wx (rI0 gv) (d2 (iF (fun _ _ => true) f)) :=
  sem2_d fun G H x y a b d Q e ra rb h k => by
    unfold iF at h
    split at h
    · cases h
      cases ra
      cases rb
      exact ⟨_, _, rfl, rfl, k _ (hr _ _ _ _)⟩
    · cases h
theorem Sem2.or {r r' : R2} {f f' : W → W → Env' → Option (R W)} (h : Sem2 X Wx r f) (h' : Sem2 X Wx r' f') : Sem2 X Wx (fun x y H Q => r x y H Q ∨ r' x y H Q) fun a b ρ => match f a b ρ with
    | some o => some o
    | none => f' a b ρ := by
  intro g σ H ρ x y w z Q S rx ry p
  cases e : f w z ρ with
  | some o => simp only [e] at p; exact .inl (h g σ H ρ x y w z Q S rx ry (by rw [e]; exact p))
  | none => simp only [e] at p; exact .inr (h' g σ H ρ x y w z Q S rx ry p)
/-- int operators -/
def gSub : W → W → Env' → Option (R W) := d2 (iF (fun _ _ => true) fun i j => .int (i - j))
def gMod : W → W → Env' → Option (R W) := d2 (iF (fun _ j => decide (j ≠ 0)) fun i j => .int (i.fmod j))
def gDiv : W → W → Env' → Option (R W) := d2 (iF (fun _ j => decide (0 < j ∧ j.natAbs.log2 < 9000)) fun i j => .int (i / j))
def mulC (i j : Int) : Bool := decide (i.natAbs.log2 + j.natAbs.log2 < 1000000)
def powC (i j : Int) : Bool := decide (0 ≤ j ∧ j ≤ 1000000 ∧ i.natAbs < 2 ^ 64)
def gPow : W → W → Env' → Option (R W) := d2 (iF powC fun i j => .int (i ^ j.toNat))
def gShl : W → W → Env' → Option (R W) := d2 (iF powC fun i j => .int (i * 2 ^ j.toNat))
def gShr : W → W → Env' → Option (R W) := d2 (iF (fun _ j => decide (0 ≤ j)) fun i j => .int (i / 2 ^ j.toNat))
def gAnd : W → W → Env' → Option (R W) := d2 (iF (fun _ _ => true) fun i j => .int (Builtin.bitAnd i j))
def gOr : W → W → Env' → Option (R W) := d2 (iF (fun _ _ => true) fun i j => .int (Builtin.bitOr i j))
def gXor : W → W → Env' → Option (R W) := d2 (iF (fun _ _ => true) fun i j => .int (Builtin.bitXor i j))
def gLt : W → W → Env' → Option (R W) := d2 (iF (fun _ _ => true) fun i j => .bool (decide (i < j)))
def gLe : W → W → Env' → Option (R W) := d2 (iF (fun _ _ => true) fun i j => .bool (decide (i ≤ j)))
def gGt : W → W → Env' → Option (R W) := d2 (iF (fun _ _ => true) fun i j => .bool (decide (j < i)))
def gGe : W → W → Env' → Option (R W) := d2 (iF (fun _ _ => true) fun i j => .bool (decide (j ≤ i)))
def SemOp (X : Cx) (Wx : WX) (f : Value → Value → Sem Value) (gop : W → W → Env' → Option (R W)) : Prop := ∃ r, OpR X f r ∧ Sem2 X Wx r gop
theorem so_sub : SemOp X Wx (binaryOp .Sub) gSub := ⟨_, op_sub, sem_int0 fun _ _ _ _ => .int _⟩
theorem so_mod : SemOp X Wx (binaryOp .Mod) gMod := ⟨_, op_modN, sem_int (fun _ _ h => of_decide_eq_true h) fun _ _ _ _ => .int _⟩
theorem so_div : SemOp X Wx (binaryOp .FloorDiv) gDiv := ⟨_, op_fdivW, sem_int (fun i j h => (of_decide_eq_true h : 0 < j ∧ j.natAbs.log2 < 9000)) fun _ _ _ _ => .int _⟩
theorem so_pow : SemOp X Wx (binaryOp .Pow) gPow := ⟨_, op_pow, sem_int (fun i j h => (of_decide_eq_true h : 0 ≤ j ∧ j ≤ 1000000 ∧ i.natAbs < 2 ^ 64)) fun _ _ _ _ => .int _⟩
theorem so_shl : SemOp X Wx (binaryOp .LShift) gShl := ⟨_, op_shl, sem_int (fun i j h => (of_decide_eq_true h : 0 ≤ j ∧ j ≤ 1000000 ∧ i.natAbs < 2 ^ 64)) fun _ _ _ _ => .int _⟩
theorem so_shr : SemOp X Wx (binaryOp .RShift) gShr := ⟨_, op_shr, sem_int (fun _ _ h => of_decide_eq_true h) fun _ _ _ _ => .int _⟩
theorem so_and : SemOp X Wx (binaryOp .BitAnd) gAnd := ⟨_, op_and, sem_int0 fun _ _ _ _ => .int _⟩
theorem so_or : SemOp X Wx (binaryOp .BitOr) gOr := ⟨_, op_or, sem_int0 fun _ _ _ _ => .int _⟩
theorem so_xor : SemOp X Wx (binaryOp .BitXor) gXor := ⟨_, op_xor, sem_int0 fun _ _ _ _ => .int _⟩
theorem so_lt : SemOp X Wx (compareOp .Lt) gLt := ⟨_, op_lt, sem_int0 fun _ _ _ _ => .bl _⟩
theorem so_le : SemOp X Wx (compareOp .LtE) gLe := ⟨_, op_le, sem_int0 fun _ _ _ _ => .bl _⟩
theorem so_gt : SemOp X Wx (compareOp .Gt) gGt := ⟨_, op_gt, sem_int0 fun _ _ _ _ => .bl _⟩
theorem so_ge : SemOp X Wx (compareOp .GtE) gGe := ⟨_, op_ge, sem_int0 fun _ _ _ _ => .bl _⟩
/-! +: ints, texts, lists, tuples -/
def gCat : W → W → Env' → Option (R W) := fun a b ρ => match view ρ a with
  | some (.list xs) => (match view ρ b with
    | some (.list ys) => if xs.length + ys.length ≤ lim then some (.ok (.fresh (.lst (xs ++ ys))) ρ) else none
    | _ => none)
  | _ => none
theorem sem_cat : Sem2 X Wx rCat gCat := by
  intro g σ H ρ x y w z Q S rx ry p
  unfold gCat at p
  split at p
  · rename_i xs ea
    split at p
    · rename_i ys eb
      split at p
      · rename_i hz
        cases view_rep S rx ea with
        | lst h1 r1 =>
          cases view_rep S ry eb with
          | lst h2 r2 => exact ⟨_, _, _, _, rfl, rfl, h1, h2, by rw [r1.length, r2.length, ← lim_eq]; exact hz, fun p' hp => PostE.newList S p (r1.append r2) hp⟩
      · exact p.elim
    · exact p.elim
  · exact p.elim
def gCatT : W → W → Env' → Option (R W) := fun a b ρ => match view ρ a with
  | some (.tuple xs) => (match view ρ b with
    | some (.tuple ys) => if xs.length + ys.length ≤ lim then some (.ok (.dat (.tuple (xs ++ ys))) ρ) else none
    | _ => none)
  | _ => none
theorem RepAll.nil_iff {K : PySem.W.Frag} {G : Hp} {vs : List V} {ds : List D} (r : RepAll K G vs ds) : vs = [] ↔ ds = [] := by
  cases r with
  | nil => simp
  | cons _ _ => simp
theorem sem_catT : Sem2 X Wx (rCatA X.K) gCatT := by
  intro g σ H ρ x y w z Q S rx ry p
  unfold gCatT at p
  split at p
  · rename_i xs ea
    split at p
    · rename_i ys eb
      split at p
      · rename_i hz
        cases view_rep S rx ea with
        | tup k1 h1 r1 =>
          cases view_rep S ry eb with
          | tup k2 h2 r2 =>
            refine ⟨_, _, _, _, rfl, rfl, .of h1, .of h2, by rw [r1.length, r2.length, ← lim_eq]; exact hz, fun e => ?_, fun _ e => ?_, fun _ _ p' hp => PostE.newTup S p (r1.append r2) hp⟩
            · rw [r1.nil_iff] at e
              subst e
              exact PostE.dat S p (.tup k2 r2)
            · rw [r2.nil_iff] at e
              subst e
              rw [List.append_nil] at p
              exact PostE.dat S p (.tup k1 r1)
      · exact p.elim
    · exact p.elim
  · exact p.elim
def sF (c : Str → Str → Bool) (f : Str → Str → D) : D → D → Option D := fun a b => match a, b with
  | .str i, .str j => if c i j then some (f i j) else none
  | _, _ => none
def gCatS : W → W → Env' → Option (R W) := d2 (sF (fun i j => decide (i.length + j.length ≤ lim)) fun i j => .str (i ++ j))
theorem sem_catS : Sem2 X Wx (fun x y H Q => ∃ i j, x = .str i ∧ y = .str j ∧ i.length + j.length ≤ sizeLine ∧ Q (.str (i ++ j)) H) gCatS :=
  sem2_d fun G H x y a b d Q e ra rb h k => by
    unfold sF at h
    split at h
    · split at h
      · rename_i hh
        cases h
        cases ra
        cases rb
        exact ⟨_, _, rfl, rfl, by rw [← lim_eq]; exact of_decide_eq_true hh, k _ (.str _)⟩
      · cases h
    · cases h
def gAdd : W → W → Env' → Option (R W) := fun a b ρ => match d2 (iF (fun _ _ => true) fun i j => .int (i + j)) a b ρ with
  | some o => some o
  | none => match gCat a b ρ with
    | some o => some o
    | none => match gCatT a b ρ with
      | some o => some o
      | none => gCatS a b ρ
theorem so_add : SemOp X Wx (binaryOp .Add) gAdd := ⟨_, op_add.or (op_cat.or (op_catA.or op_add_str)), (sem_int0 fun _ _ _ _ => .int _).or (sem_cat.or (sem_catT.or sem_catS))⟩
/-! *: ints, a list that is repeated -/
def repC (k : Int) (n : Nat) : Bool := decide (-1000000 ≤ k ∧ k ≤ 1000000 ∧ n * k.toNat ≤ lim)
def gRep : W → W → Env' → Option (R W) := fun a b ρ => match view ρ a with
  | some (.list xs) => (match view ρ b with
    | some (.int k) => if repC k xs.length = true then some (.ok (.fresh (.lst (List.replicate k.toNat xs).flatten)) ρ) else none
    | _ => none)
  | _ => none
theorem RepAll.rep {K : PySem.W.Frag} {G : Hp} {vs : List V} {ds : List D} (r : RepAll K G vs ds) : ∀ n : Nat, RepAll K G (List.replicate n vs).flatten (List.replicate n ds).flatten
  | 0 => .nil
  | n + 1 => by
    simp only [List.replicate_succ, List.flatten_cons]
    exact r.append (RepAll.rep r n)
theorem sem_rep : Sem2 X Wx rRep gRep := by
  intro g σ H ρ x y w z Q S rx ry p
  unfold gRep at p
  split at p
  · rename_i xs ea
    split at p
    · rename_i k eb
      split at p
      · rename_i hz
        have hz := of_decide_eq_true hz
        cases view_rep S rx ea with
        | lst h1 r1 =>
          cases view_rep S ry eb with
          | int _ => exact ⟨_, _, _, rfl, rfl, h1, by omega, by omega, by rw [r1.length, ← lim_eq]; exact hz.2.2, fun p' hp => PostE.newList S p (r1.rep _) hp⟩
      · exact p.elim
    · exact p.elim
  · exact p.elim
def gMul : W → W → Env' → Option (R W) := fun a b ρ => match d2 (iF mulC fun i j => .int (i * j)) a b ρ with
  | some o => some o
  | none => gRep a b ρ
theorem so_mul : SemOp X Wx (binaryOp .Mult) gMul := ⟨_, op_mulW.or op_rep, (sem_int (fun i j h => (of_decide_eq_true h : i.natAbs.log2 + j.natAbs.log2 < 1000000)) fun _ _ _ _ => .int _).or sem_rep⟩
/-! unary -/
def SemUn (X : Cx) (Wx : WX) (f : Value → Sem Value) (gop : W → Env' → Option (R W)) : Prop := ∃ r, UnR X f r ∧ Sem1 X Wx r gop
def iF1 (f : Int → D) : D → Option D
  | .int i => some (f i)
  | _ => none
theorem sem_int1 {f : Int → Int} : Sem1 X Wx (rU fun i => .int (f i)) (d1 (iF1 fun i => .int (f i))) :=
  sem1_d fun G H x a d Q e ra h k => by
    unfold iF1 at h
    split at h
    · cases h
      cases ra
      exact ⟨_, rfl, k _ (.int _)⟩
    · cases h
def gNeg : W → Env' → Option (R W) := d1 (iF1 fun i => .int (-i))
def gInv : W → Env' → Option (R W) := d1 (iF1 fun i => .int (Builtin.bitNot i))
theorem su_neg : SemUn X Wx (unaryOp .USub) gNeg := ⟨_, un_neg, sem_int1⟩
theorem su_inv : SemUn X Wx (unaryOp .Invert) gInv := ⟨_, un_inv, sem_int1⟩
/-! the rules, with the operator's promise -/
theorem okOpX {op : Operator} {gop : W → W → Env' → Option (R W)} {a b : Expr} {sa sb : ES} {pos : Pos} (ho : SemOp X Wx (binaryOp op) gop) (ha : OkE X Wx a sa) (hb : OkE X Wx b sb) : OkE X Wx (.BinOp a op b pos) (opS gop sa sb) := let ⟨_, h, q⟩ := ho; okOp h q ha hb
theorem okUnX {op : UnaryOp} {gop : W → Env' → Option (R W)} {a : Expr} {sa : ES} {pos : Pos} (ho : SemUn X Wx (unaryOp op) gop) (ha : OkE X Wx a sa) : OkE X Wx (.UnaryOp op a pos) (unS gop sa) := let ⟨_, h, q⟩ := ho; okUn h q ha
theorem okCmpX {op : CmpOp} {gop : W → W → Env' → Option (R W)} {a b : Expr} {sa sb : ES} {pos : Pos} (ho : SemOp X Wx (compareOp op) gop) (ha : OkE X Wx a sa) (hb : OkE X Wx b sb) (hm : behindInMarks op b = false := by with_unfolding_all rfl) : OkE X Wx (.Compare a [op] [b] pos) (opS gop sa sb) := let ⟨_, h, q⟩ := ho; okCmp h q ha hb hm
theorem okT_cmpX {op : CmpOp} {gop : W → W → Env' → Option (R W)} {a b : Expr} {sa sb : ES} {pos : Pos} (ho : SemOp X Wx (compareOp op) gop) (ha : OkE X Wx a sa) (hb : OkE X Wx b sb) (hm : behindInMarks op b = false := by with_unfolding_all rfl) : OkT X Wx (.Compare a [op] [b] pos) (tst (opS gop sa sb)) := let ⟨_, h, q⟩ := ho; okT_cmp h q ha hb hm
theorem okChainX {op op' : CmpOp} {gop gop' : W → W → Env' → Option (R W)} {a b c : Expr} {sa sb sc : ES} {pos : Pos} (ho : SemOp X Wx (compareOp op) gop) (ho' : SemOp X Wx (compareOp op') gop') (ha : OkE X Wx a sa) (hb : OkE X Wx b sb) (hc : OkE X Wx c sc)
    (hm : lastMarks [op, op'] [b, c] = false := by with_unfolding_all rfl) : OkE X Wx (.Compare a [op, op'] [b, c] pos) (chS gop gop' sa sb sc) := let ⟨_, h, q⟩ := ho; let ⟨_, h', q'⟩ := ho'; okChain h q h' q' ha hb hc hm
theorem okT_chainX {op op' : CmpOp} {gop gop' : W → W → Env' → Option (R W)} {a b c : Expr} {sa sb sc : ES} {pos : Pos} (ho : SemOp X Wx (compareOp op) gop) (ho' : SemOp X Wx (compareOp op') gop') (ha : OkE X Wx a sa) (hb : OkE X Wx b sb) (hc : OkE X Wx c sc)
    (hm : lastMarks [op, op'] [b, c] = false := by with_unfolding_all rfl) : OkT X Wx (.Compare a [op, op'] [b, c] pos) (tst (chS gop gop' sa sb sc)) := let ⟨_, h, q⟩ := ho; let ⟨_, h', q'⟩ := ho'; okT_chain h q h' q' ha hb hc hm
end
/-! ### == and != , in and not in -/
section
variable {X : Cx} {Wx : WX}
mutual
theorem Rep.dp {K : PySem.W.Frag} {H : Hp} : ∀ {v : V} {d : D}, Rep K H v d → d.canLay0 = true → Dp K H v d
  | _, _, .non, _ => .non
  | _, _, .bl b, _ => .bl b
  | _, _, .int i, _ => .int i
  | _, _, .str x, _ => .str x
  | _, _, .lst h r, c => .lst (.of h) (RepAll.dp r (by simpa [PyData.canLay0] using c))
  | _, _, .tup h r, c => .tup (.of h) (RepAll.dp r (by simpa [PyData.canLay0] using c))
  | _, _, .dic _ _ _, c => absurd c (by simp [PyData.canLay0])
theorem RepAll.dp {K : PySem.W.Frag} {H : Hp} : ∀ {vs : List V} {ds : List D}, RepAll K H vs ds → PyData.canLayAll0 ds = true → DpAll K H vs ds
  | _, _, .nil, _ => .nil
  | _, _, .cons h r, c => by
    have c' := c
    rw [PyData.canLayAll0, Bool.and_eq_true] at c'
    exact .cons (Rep.dp h c'.1) (RepAll.dp r c'.2)
end
def bothStr : D → D → Bool
  | .str _, .str _ => true
  | _, _ => false
def eqF (f : Bool → Bool) : D → D → Option D := fun a b => if bothStr a b || (SeqAt.shaped a && SeqAt.shaped b) then some (.bool (f (PyData.eqv a b))) else none
def gEq : W → W → Env' → Option (R W) := d2 (eqF id)
def gNe : W → W → Env' → Option (R W) := d2 (eqF not)
theorem eqv_str (x y : Str) : PyData.eqv (.str x) (.str y) = decide (V.str x = V.str y) := by
  rw [dec_str]
  simp [PyData.eqv]
theorem so_eq (hu : X.A.units + 64 < cLine) : SemOp X Wx (compareOp .Eq) gEq := ⟨_, op_eq.or (op_eqD hu), sem2_d fun G H x y a b d Q e ra rb h k => by
  unfold eqF at h
  split at h
  · rename_i hs
    cases h
    cases hb : bothStr a b with
    | true =>
      cases a <;> cases b <;> first
        | (cases ra; cases rb; exact .inl ⟨rfl, k _ (by simp only [id, eqv_str]; exact .bl _)⟩)
        | cases hb
    | false =>
      rw [hb, Bool.false_or, Bool.and_eq_true] at hs
      exact .inr ⟨a, b, (ra.rep e).dp (SeqAt.canLay_of_shaped hs.1), (rb.rep e).dp (SeqAt.canLay_of_shaped hs.2), hs.1, hs.2, k _ (.bl _)⟩
  · cases h⟩
theorem so_ne (hu : X.A.units + 64 < cLine) : SemOp X Wx (compareOp .NotEq) gNe := ⟨_, op_ne.or (op_neD hu), sem2_d fun G H x y a b d Q e ra rb h k => by
  unfold eqF at h
  split at h
  · rename_i hs
    cases h
    cases hb : bothStr a b with
    | true =>
      cases a <;> cases b <;> first
        | (cases ra; cases rb; exact .inl ⟨rfl, k _ (by simp only [eqv_str]; exact .bl _)⟩)
        | cases hb
    | false =>
      rw [hb, Bool.false_or, Bool.and_eq_true] at hs
      exact .inr ⟨a, b, (ra.rep e).dp (SeqAt.canLay_of_shaped hs.1), (rb.rep e).dp (SeqAt.canLay_of_shaped hs.2), hs.1, hs.2, k _ (.bl _)⟩
  · cases h⟩
def inF (f : Bool → Bool) : D → D → Option D := fun a b => match b with
  | .list ds => if SeqAt.shaped a && SeqAt.shaped (.list ds) then some (.bool (f (ds.any fun z => PyData.eqv z a))) else none
  | _ => none
def gIn : W → W → Env' → Option (R W) := d2 (inF id)
def gNotIn : W → W → Env' → Option (R W) := d2 (inF not)
theorem so_in (hu : X.A.units + 65 < cLine) : SemOp X Wx (compareOp .In) gIn := ⟨_, op_inD hu, sem2_d fun G H x y a b d Q e ra rb h k => by
  unfold inF at h
  split at h
  · split at h
    · rename_i hs
      cases h
      rw [Bool.and_eq_true] at hs
      exact ⟨a, _, (ra.rep e).dp (SeqAt.canLay_of_shaped hs.1), (rb.rep e).dp (SeqAt.canLay_of_shaped hs.2), hs.1, hs.2, k _ (.bl _)⟩
    · cases h
  · cases h⟩
theorem so_notIn (hu : X.A.units + 65 < cLine) : SemOp X Wx (compareOp .NotIn) gNotIn := ⟨_, op_notInD hu, sem2_d fun G H x y a b d Q e ra rb h k => by
  unfold inF at h
  split at h
  · split at h
    · rename_i hs
      cases h
      rw [Bool.and_eq_true] at hs
      exact ⟨a, _, (ra.rep e).dp (SeqAt.canLay_of_shaped hs.1), (rb.rep e).dp (SeqAt.canLay_of_shaped hs.2), hs.1, hs.2, k _ (.bl _)⟩
    · cases h
  · cases h⟩
/-- is None, is True -/
def isF (f : Bool → Bool) : D → D → Option D := fun a b => match a, b with
  | .none, .none => some (.bool (f true))
  | .bool i, .none => some (.bool (f false))
  | .int i, .none => some (.bool (f false))
  | .str i, .none => some (.bool (f false))
  | .list i, .none => some (.bool (f false))
  | .tuple i, .none => some (.bool (f false))
  | .dict i, .none => some (.bool (f false))
  | .bool i, .bool j => some (.bool (f (decide (i = j))))
  | _, _ => none
theorem so_is : SemOp X Wx (compareOp .Is) (d2 (isF id)) := ⟨_, op_isN.or op_isBl, sem2_d fun G H x y a b d Q e ra rb h k => by
  unfold isF at h
  split at h <;> cases h <;> cases ra <;> cases rb <;> first
    | exact .inl ⟨rfl, k _ (.bl _)⟩
    | exact .inr ⟨_, _, rfl, rfl, k _ (.bl _)⟩⟩
theorem so_isNot : SemOp X Wx (compareOp .IsNot) (d2 (isF not)) := ⟨_, op_notN.or op_notBl, sem2_d fun G H x y a b d Q e ra rb h k => by
  unfold isF at h
  split at h <;> cases h <;> cases ra <;> cases rb <;> first
    | exact .inl ⟨rfl, k _ (.bl _)⟩
    | exact .inr ⟨_, _, rfl, rfl, k _ (.bl _)⟩⟩
end
end Py

namespace Py
open PySem PySem.Spec PyProof.Rows L2
/-! ### sequences that are only read: the script too -/
def viewS (ρ : Env') : W → Option D
  | .scr (.sc ns) => some (.list (ns.map PyData.int))
  | w => view ρ w
inductive RepS (K : PySem.W.Frag) (G H : Hp) : V → D → Prop
  | non : RepS K G H .non .none
  | bl (b : Bool) : RepS K G H (.bl b) (.bool b)
  | int (i : Int) : RepS K G H (.int i) (.int i)
  | str (x : Str) : RepS K G H (.str x) (.str x)
  | lst {a : Addr} {xs : List V} {ds : List D} : SqL K H a xs → RepAll K G xs ds → RepS K G H (.ref a) (.list ds)
  | tup {a : Addr} {xs : List V} {ds : List D} : G a = some (.tup xs) → SqT K H a xs → RepAll K G xs ds → RepS K G H (.ref a) (.tuple ds)
  | dic {a : Addr} {ks : List (Key × V)} {kvs : List (D × D)} : H a = some (.dK ks) → kvs.map (·.1) = ks.map (fun p => keyD p.1) → RepAll K G (ks.map (·.2)) (kvs.map (·.2)) → RepS K G H (.ref a) (.dict kvs)
theorem RepV.seq {K : PySem.W.Frag} {G H : Hp} {v : V} {d : D} (h : RepV K G H v d) : RepS K G H v d := by
  cases h with
  | non => exact .non
  | bl b => exact .bl b
  | int i => exact .int i
  | str x => exact .str x
  | lst h r => exact .lst (.of h) r
  | tup k h r => exact .tup k (.of h) r
  | dic h k r => exact .dic h k r
section
variable {X : Cx} {Wx : WX} {g : Gh} {σ : L2.St} {H : Hp} {ρ : Env'} {v : V} {w : W} {d : D}
theorem viewS_rep (S : SR X g σ H ρ) (r : RepW X g σ H v w) (h : viewS ρ w = some d) : RepS X.K g.G H v d := by
  cases w with
  | scr ns =>
    cases ns with
    | sc ns =>
      cases h
      obtain ⟨a, rfl, q⟩ := r
      exact .lst (sm_seqL S.sub.1 q) (RepAll.ofInts ns)
    | tp xs => cases h
    | rg j => cases h
  | dat d' => exact (view_rep S r h).seq
  | obj c fs => exact (view_rep S r h).seq
  | fresh c => exact (view_rep S r h).seq
  | own i => exact (view_rep S r h).seq
/-! ### a[b] -/
def ixF : D → D → Option D := fun a b => match b with
  | .int i => match a with
    | .list ds => atI ds i
    | .tuple ds => atI ds i
    | _ => none
  | _ => none
def gIx : W → W → Env' → Option (R W) := fun a b ρ => match viewS ρ a with
  | some x => match view ρ b with
    | some y => match ixF x y with
      | some d => some (.ok (.dat d) ρ)
      | none => none
    | none => none
  | none => none
theorem RepAll.atI {K : PySem.W.Frag} {G : Hp} {vs : List V} {ds : List D} {i : Int} {d : D} (r : RepAll K G vs ds) (h : L2.atI ds i = some d) : ∃ v, L2.atI vs i = some v ∧ Rep K G v d := by
  unfold L2.atI at h ⊢
  rw [r.length]
  cases e : ixN ds.length i with
  | none => rw [e] at h; cases h
  | some j =>
    rw [e] at h
    exact r.get h
theorem si_ix : ∃ r, IxR X r ∧ Sem2 X Wx r gIx := by
  refine ⟨_, ix_list.or ix_tup, ?_⟩
  intro g σ H ρ x y w z Q S rx ry p
  unfold gIx at p
  split at p
  · rename_i a ea
    split at p
    · rename_i b eb
      split at p
      · rename_i d ed
        have ra := viewS_rep S rx ea
        have rb := view_rep S ry eb
        unfold ixF at ed
        split at ed
        · rename_i i
          cases rb
          split at ed
          · cases ra with
            | lst h r =>
              obtain ⟨v, h1, h2⟩ := r.atI ed
              exact .inl ⟨_, _, _, _, rfl, rfl, h, h1, PostE.dat S p h2⟩
          · cases ra with
            | tup k h r =>
              obtain ⟨v, h1, h2⟩ := r.atI ed
              exact .inr ⟨_, _, _, _, rfl, rfl, h, h1, PostE.dat S p h2⟩
          · cases ed
        · cases ed
      · exact p.elim
    · exact p.elim
  · exact p.elim
theorem okIxX {a b : Expr} {sa sb : ES} {pos : Pos} (ha : OkE X Wx a sa) (hb : OkE X Wx b sb) (hs : PlainIx b := by exact fun _ _ => rfl) : OkE X Wx (.Subscript a b pos) (opS gIx sa sb) := let ⟨_, h, q⟩ := si_ix; okIx h q ha hb hs
/-! ### slices -/
abbrev PS' := Env' → Option (R (Option Int))
def relO : Hp → Gh → Hp → Option Int → Option Int → Prop := fun _ _ _ b c => b = c
def OkO (X : Cx) (Wx : WX) (e : Option Expr) (s : PS') : Prop := ∃ t, PO X e t ∧ ∀ g σ H ρ Q, SR X g σ H ρ → PostG X Wx relO g σ H (s ρ) Q → t σ H Q
theorem later_O : Later relO := fun _ _ _ _ _ _ _ _ _ h => h
def noP : PS' := fun ρ => some (.ok none ρ)
def someP (s : ES) : PS' := fun ρ => bnd (s ρ) fun w ρ => match w with
  | .dat (.int i) => some (.ok (some i) ρ)
  | _ => none
theorem okO_none : OkO X Wx none noP := ⟨_, po_none, fun g σ H ρ Q S h => h g H none (Ext.refl _ _) S rfl⟩
theorem okO_some {e : Expr} {s : ES} (he : OkE X Wx e s) : OkO X Wx (some e) (someP s) := by
  obtain ⟨t, p, q⟩ := he
  refine ⟨_, po_some p, fun g σ H ρ Q S h => q g σ H ρ _ S (PostG.bind later_O h ?_)⟩
  intro w ρ1 g1 H1 x _ e1 S1 r1 h1
  cases w with
  | dat d =>
    cases d with
    | int i =>
      cases (show Rep X.K g1.G x (.int i) from r1.1)
      exact ⟨i, rfl, h1 g1 H1 _ (Ext.refl _ _) S1 rfl⟩
    | _ => exact h1.elim
  | _ => exact h1.elim
def cutD {α : Type} (xs : List α) (lo hi : Option Int) : List α := (xs.drop (HT.sIx xs.length 0 lo)).take (HT.sIx xs.length xs.length hi - HT.sIx xs.length 0 lo)
theorem RepAll.cut {K : PySem.W.Frag} {G : Hp} {vs : List V} {ds : List D} (r : RepAll K G vs ds) (lo hi : Option Int) : RepAll K G (cutV vs lo hi) (cutD ds lo hi) := by
  unfold cutV cutD
  rw [r.length]
  exact (r.drop _).take _
def gSl (lo hi : Option Int) : W → Env' → Option (R W) := fun w ρ => match viewS ρ w with
  | some (.list ds) => some (.ok (.fresh (.lst (cutD ds lo hi))) ρ)
  | some (.tuple ds) => some (.ok (.dat (.tuple (cutD ds lo hi))) ρ)
  | _ => none
def slS (sa : ES) (lo hi : PS') : ES := fun ρ => bnd (sa ρ) fun w ρ => bnd (lo ρ) fun l ρ => bnd (hi ρ) fun h ρ => gSl l h w ρ
theorem cut_all {α : Type} {xs : List α} {lo hi : Option Int} (h : HT.sIx xs.length 0 lo = 0 ∧ HT.sIx xs.length xs.length hi = xs.length) : cutD xs lo hi = xs := by
  unfold cutD
  rw [h.1, h.2]
  simp
theorem okSlice {a : Expr} {lo hi : Option Expr} {p2 pos : Pos} {sa : ES} {l h : PS'} (ha : OkE X Wx a sa) (hl : OkO X Wx lo l) (hh : OkO X Wx hi h) : OkE X Wx (.Subscript a (.Slice lo hi none p2) pos) (slS sa l h) := by
  obtain ⟨t, p, q⟩ := ha
  obtain ⟨tl, pl, ql⟩ := hl
  obtain ⟨th, ph, qh⟩ := hh
  refine ⟨_, pe_slice (sl_list.or sl_tupA) p pl ph, fun g σ H ρ Q S h => q g σ H ρ _ S (PostG.bind later_E h ?_)⟩
  intro w ρ1 g1 H1 x _ e1 S1 r1 h1
  refine ql g1 σ H1 ρ1 _ S1 (PostG.bind later_E h1 ?_)
  intro lo' ρ2 g2 H2 lv _ e2 S2 r2 h2
  cases r2
  refine qh g2 σ H2 ρ2 _ S2 (PostG.bind later_E h2 ?_)
  intro hi' ρ3 g3 H3 hv _ e3 S3 r3 h3
  cases r3
  have rw' := (r1.1.ext e2).ext e3
  unfold gSl at h3
  split at h3
  · rename_i ds ed
    cases viewS_rep S3 rw' ed with
    | lst hs r => exact .inl ⟨_, _, rfl, hs, fun p hp => PostE.newList S3 h3 (r.cut _ _) hp⟩
  · rename_i ds ed
    cases viewS_rep S3 rw' ed with
    | tup k hs r =>
      refine .inr ⟨_, _, rfl, hs, fun e => ?_, fun _ p hp => PostE.newTup S3 h3 (r.cut _ _) hp⟩
      rw [r.length] at e
      rw [cut_all e] at h3
      exact PostE.dat S3 h3 (.tup k r)
  · exact h3.elim
def gRev : W → Env' → Option (R W) := fun w ρ => match viewS ρ w with
  | some (.list ds) => some (.ok (.fresh (.lst ds.reverse)) ρ)
  | _ => none
theorem okRevL {e : Expr} {s : ES} {k : Nat} {p1 p2 p3 pos : Pos} (he : OkE X Wx e s) : OkE X Wx (.Subscript e (.Slice none none (some (.UnaryOp .USub (.Constant (.int 1) k p1) p2)) p3) pos) (unS gRev s) := by
  obtain ⟨t, p, q⟩ := he
  refine ⟨_, pe_revL p, fun g σ H ρ Q S h => q g σ H ρ _ S (PostG.bind later_E h ?_)⟩
  intro w ρ1 g1 H1 x _ e1 S1 r1 h1
  unfold gRev at h1
  split at h1
  · rename_i ds ed
    cases viewS_rep S1 r1.1 ed with
    | lst hs r => exact ⟨_, _, rfl, hs, fun p hp => PostE.newList S1 h1 r.reverse hp⟩
  · exact h1.elim
/-! ### calls of built-ins -/
inductive RepSs (K : PySem.W.Frag) (G H : Hp) : List V → List D → Prop
  | nil : RepSs K G H [] []
  | cons {v : V} {vs : List V} {d : D} {ds : List D} : RepS K G H v d → RepSs K G H vs ds → RepSs K G H (v :: vs) (d :: ds)
def viewsS (ρ : Env') : List W → Option (List D)
  | [] => some []
  | w :: ws => match viewS ρ w with
    | some d => match viewsS ρ ws with
      | some ds => some (d :: ds)
      | none => none
    | none => none
theorem viewsS_rep (S : SR X g σ H ρ) {H0 : Hp} : ∀ {vs : List V} {ws : List W} {ds : List D}, RepWs X g σ H0 H vs ws → viewsS ρ ws = some ds → RepSs X.K g.G H vs ds
  | _, _, _, .nil, h => by cases h; exact .nil
  | _, _, _, .cons (w := w) (ws := ws) r _ t _, h => by
    unfold viewsS at h
    split at h
    · rename_i d ed
      split at h
      · rename_i es ee
        cases h
        exact .cons (viewS_rep S r ed) (viewsS_rep S t ee)
      · cases h
    · cases h
/-- data, a new list, a new tuple -/
def cD (f : List D → Option D) : List W → Env' → Option (R W) := fun ws ρ => match viewsS ρ ws with
  | some ds => match f ds with
    | some d => some (.ok (.dat d) ρ)
    | none => none
  | none => none
def cL (f : List D → Option (List D)) : List W → Env' → Option (R W) := fun ws ρ => match viewsS ρ ws with
  | some ds => match f ds with
    | some d => some (.ok (.fresh (.lst d)) ρ)
    | none => none
  | none => none
theorem semC_d {r : List V → Hp → VK → Prop} {f : List D → Option D} (h : ∀ G H xs ds d Q, Sm G H → RepSs X.K G H xs ds → f ds = some d → (∀ v, Rep X.K G v d → Q v H) →
    (∀ es vs, d = .tuple es → RepAll X.K G vs es → ∀ p, H p = none → Q (.ref p) (upd H p (.tup vs))) → r xs H Q) : SemC X Wx r (cD f) := by
  intro g σ H0 H ρ vs ws Q S rs p
  unfold cD at p
  split at p
  · rename_i ds ed
    split at p
    · rename_i d ef
      refine h g.G H vs ds d Q S.sub.1 (viewsS_rep S rs ed) ef (fun v r => PostE.dat S p r) fun es us e r q hq => ?_
      subst e
      exact PostE.newTup S p r hq
    · exact p.elim
  · exact p.elim
theorem semC_l {r : List V → Hp → VK → Prop} {f : List D → Option (List D)} (h : ∀ G H xs ds d Q, Sm G H → RepSs X.K G H xs ds → f ds = some d → (∀ vs, RepAll X.K G vs d → ∀ p, H p = none → Q (.ref p) (upd H p (.lst vs))) → r xs H Q) : SemC X Wx r (cL f) := by
  intro g σ H0 H ρ vs ws Q S rs p
  unfold cL at p
  split at p
  · rename_i ds ed
    split at p
    · rename_i d ef
      exact h g.G H vs ds d Q S.sub.1 (viewsS_rep S rs ed) ef fun us r q hq => PostE.newList S p r hq
    · exact p.elim
  · exact p.elim
def SemCl (X : Cx) (Wx : WX) (f : Value) (F : List W → Env' → Option (R W)) : Prop := ∃ r, CallR X f r ∧ SemC X Wx r F
theorem okCallBX {x : Str} {p pos : Pos} {e : Expr} {es : List Expr} {id : String} {F : List W → Env' → Option (R W)} {sa : AS} (hc : SemCl X Wx (.builtin id) F) (hg : Gl X x) (hm : X.mg x = none)
    (hv : bootBuiltins x = some (.builtin id)) (ha : OkA X Wx (e :: es) sa) (hn : x ≠ "__name__" := by decide) (hdb : (x == ("__debug__" : Str)) = false := by decide)
    (he : starEach (e :: es) X.env = (false, eval e X.env) :: starEach es X.env := by rfl) (hpl : (backTo pos (starEach es X.env)).any (·.1) = false := by rfl) : OkE X Wx (.Call (.Name x p) (e :: es) [] pos) (callS F sa) := let ⟨_, h, q⟩ := hc; okCallB h q hg hm hv ha hn hdb he hpl
theorem okCallTyX {x : Str} {p pos : Pos} {e : Expr} {es : List Expr} {T : String} {F : List W → Env' → Option (R W)} {sa : AS} (hc : SemCl X Wx (.type T) F) (hg : Gl X x) (hm : X.mg x = none)
    (hv : bootBuiltins x = some (.type T)) (ha : OkA X Wx (e :: es) sa) (hn : x ≠ "__name__" := by decide) (hdb : (x == ("__debug__" : Str)) = false := by decide)
    (he : starEach (e :: es) X.env = (false, eval e X.env) :: starEach es X.env := by rfl) (hpl : (backTo pos (starEach es X.env)).any (·.1) = false := by rfl) : OkE X Wx (.Call (.Name x p) (e :: es) [] pos) (callS F sa) := let ⟨_, h, q⟩ := hc; okCallTy h q hg hm hv ha hn hdb he hpl
def lenF : List D → Option D
  | [.list ds] => some (.int (ds.length : Nat))
  | [.tuple ds] => some (.int (ds.length : Nat))
  | [.str x] => if x.length ≤ lim then some (.int (x.length : Nat)) else none
  | _ => none
theorem sc_len : SemCl X Wx (.builtin "len") (cD lenF) := ⟨_, call_len_seq.or call_len_str, semC_d fun G H xs ds d Q e rs hf k _ => by
  unfold lenF at hf
  split at hf
  · cases hf
    cases rs with
    | cons r t =>
      cases t
      cases r with
      | lst h r => exact .inl ⟨_, _, rfl, .inl h, by rw [r.length]; exact k _ (.int _)⟩
  · cases hf
    cases rs with
    | cons r t =>
      cases t
      cases r with
      | tup _ h r => exact .inl ⟨_, _, rfl, .inr h, by rw [r.length]; exact k _ (.int _)⟩
  · split at hf
    · rename_i hz
      cases hf
      cases rs with
      | cons r t =>
        cases t
        cases r
        exact .inr ⟨_, rfl, by rw [← lim_eq]; exact hz, k _ (.int _)⟩
    · cases hf
  · cases hf⟩
def absF : List D → Option D
  | [.int i] => some (.int (if i < 0 then -i else i))
  | _ => none
theorem sc_abs : SemCl X Wx (.builtin "abs") (cD absF) := ⟨_, call_abs, semC_d fun G H xs ds d Q e rs hf k _ => by
  unfold absF at hf
  split at hf
  · cases hf
    cases rs with
    | cons r t => cases t; cases r; exact ⟨_, rfl, k _ (.int _)⟩
  · cases hf⟩
def intsOf : List D → Option (List Int)
  | [] => some []
  | .int i :: r => match intsOf r with
    | some ns => some (i :: ns)
    | none => none
  | _ :: _ => none
theorem intsOf_eq : ∀ {ds : List D} {ns : List Int}, intsOf ds = some ns → ds = ns.map PyData.int
  | [], _, h => by cases h; rfl
  | .int i :: r, _, h => by
    unfold intsOf at h
    split at h
    · rename_i ms e
      cases h
      rw [intsOf_eq e]
      rfl
    · cases h
  | .none :: _, _, h | .bool _ :: _, _, h | .str _ :: _, _, h | .list _ :: _, _, h | .tuple _ :: _, _, h | .dict _ :: _, _, h => by cases h
@[simp] theorem intsOf_map : ∀ ns : List Int, intsOf (ns.map PyData.int) = some ns
  | [] => rfl
  | n :: ns => by simp [intsOf, intsOf_map ns]
def maxL : Int → List Int → Int
  | m, [] => m
  | m, n :: ns => maxL (if n > m then n else m) ns
def minL : Int → List Int → Int
  | m, [] => m
  | m, n :: ns => minL (if n < m then n else m) ns
theorem maxL_ok : ∀ (ns : List Int) (m x : Int), (x = m ∨ x ∈ ns) → (∀ y, y = m ∨ y ∈ ns → y ≤ x) → maxL m ns = x
  | [], m, x, h, _ => by
    rcases h with h | h
    · exact h.symm
    · cases h
  | n :: ns, m, x, h, k => by
    have k1 := k m (.inl rfl)
    have k2 := k n (.inr (by simp))
    refine maxL_ok ns _ x ?_ fun y hy => ?_
    · rcases h with h | h
      · left; split <;> omega
      · rcases List.mem_cons.mp h with h | h
        · left; split <;> omega
        · exact .inr h
    · rcases hy with hy | hy
      · rw [hy]; split <;> omega
      · exact k y (.inr (List.mem_cons_of_mem _ hy))
theorem minL_ok : ∀ (ns : List Int) (m x : Int), (x = m ∨ x ∈ ns) → (∀ y, y = m ∨ y ∈ ns → x ≤ y) → minL m ns = x
  | [], m, x, h, _ => by
    rcases h with h | h
    · exact h.symm
    · cases h
  | n :: ns, m, x, h, k => by
    have k1 := k m (.inl rfl)
    have k2 := k n (.inr (by simp))
    refine minL_ok ns _ x ?_ fun y hy => ?_
    · rcases h with h | h
      · left; split <;> omega
      · rcases List.mem_cons.mp h with h | h
        · left; split <;> omega
        · exact .inr h
    · rcases hy with hy | hy
      · rw [hy]; split <;> omega
      · exact k y (.inr (List.mem_cons_of_mem _ hy))
def maxF : List D → Option D
  | [.int i, .int j] => some (.int (if j > i then j else i))
  | [.list ds] => match intsOf ds with
    | some (n :: ns) => some (.int (maxL n ns))
    | _ => none
  | _ => none
def minF : List D → Option D
  | [.int i, .int j] => some (.int (if j < i then j else i))
  | [.list ds] => match intsOf ds with
    | some (n :: ns) => some (.int (minL n ns))
    | _ => none
  | _ => none
theorem RepAll.toInts {K : PySem.W.Frag} {G : Hp} {vs : List V} {ds : List D} {ns : List Int} (r : RepAll K G vs ds) (h : intsOf ds = some ns) : vs = ns.map V.int := by
  rw [intsOf_eq h] at r
  exact r.ints
theorem sc_max (hc : X.calm = true) : SemCl X Wx (.builtin "max") (cD maxF) := ⟨_, (call_max2 hc).or (cr_max hc), semC_d fun G H xs ds d Q e rs hf k _ => by
  unfold maxF at hf
  split at hf
  · cases hf
    cases rs with
    | cons r t =>
      cases t with
      | cons r' t =>
        cases t
        cases r
        cases r'
        exact .inl ⟨_, _, rfl, k _ (.int _)⟩
  · split at hf
    · rename_i n ns en
      cases hf
      cases rs with
      | cons r t =>
        cases t
        cases r with
        | lst h r =>
          rw [r.toInts en] at h
          refine .inr ⟨_, _, rfl, h, by simp, fun m hm hy => ?_⟩
          rw [← maxL_ok ns n m (by simpa using hm) fun y h => hy y (by simpa using h)]
          exact k _ (.int _)
    · cases hf
  · cases hf⟩
theorem sc_min (hc : X.calm = true) : SemCl X Wx (.builtin "min") (cD minF) := ⟨_, (call_min2 hc).or (cr_min hc), semC_d fun G H xs ds d Q e rs hf k _ => by
  unfold minF at hf
  split at hf
  · cases hf
    cases rs with
    | cons r t =>
      cases t with
      | cons r' t =>
        cases t
        cases r
        cases r'
        exact .inl ⟨_, _, rfl, k _ (.int _)⟩
  · split at hf
    · rename_i n ns en
      cases hf
      cases rs with
      | cons r t =>
        cases t
        cases r with
        | lst h r =>
          rw [r.toInts en] at h
          refine .inr ⟨_, _, rfl, h, by simp, fun m hm hy => ?_⟩
          rw [← minL_ok ns n m (by simpa using hm) fun y h => hy y (by simpa using h)]
          exact k _ (.int _)
    · cases hf
  · cases hf⟩
def intF : List D → Option D
  | [.int i] => some (.int i)
  | [.bool b] => some (.int (if b then 1 else 0))
  | _ => none
theorem sc_int : SemCl X Wx (.type "int") (cD intF) := ⟨_, call_int1, semC_d fun G H xs ds d Q e rs hf k _ => by
  unfold intF at hf
  split at hf
  · cases hf
    cases rs with
    | cons r t => cases t; cases r; exact .inl ⟨_, rfl, k _ (.int _)⟩
  · cases hf
    cases rs with
    | cons r t => cases t; cases r; exact .inr ⟨_, rfl, k _ (.int _)⟩
  · cases hf⟩
def sumF : List D → Option D
  | [.list ds] => match intsOf ds with
    | some ns => some (.int ns.sum)
    | none => none
  | _ => none
theorem sc_sum (hc : X.calm = true) : SemCl X Wx (.builtin "sum") (cD sumF) := ⟨_, cr_sum hc, semC_d fun G H xs ds d Q e rs hf k _ => by
  unfold sumF at hf
  split at hf
  · split at hf
    · rename_i ns en
      cases hf
      cases rs with
      | cons r t =>
        cases t
        cases r with
        | lst h r =>
          rw [r.toInts en] at h
          exact ⟨_, _, rfl, h, k _ (.int _)⟩
    · cases hf
  · cases hf⟩
def boolsOf : List D → Option (List Bool)
  | [] => some []
  | .bool i :: r => match boolsOf r with
    | some ns => some (i :: ns)
    | none => none
  | _ :: _ => none
theorem boolsOf_eq : ∀ {ds : List D} {ns : List Bool}, boolsOf ds = some ns → ds = ns.map PyData.bool
  | [], _, h => by cases h; rfl
  | .bool i :: r, _, h => by
    unfold boolsOf at h
    split at h
    · rename_i ms e
      cases h
      rw [boolsOf_eq e]
      rfl
    · cases h
  | .none :: _, _, h | .int _ :: _, _, h | .str _ :: _, _, h | .list _ :: _, _, h | .tuple _ :: _, _, h | .dict _ :: _, _, h => by cases h
@[simp] theorem boolsOf_map : ∀ ns : List Bool, boolsOf (ns.map PyData.bool) = some ns
  | [] => rfl
  | n :: ns => by simp [boolsOf, boolsOf_map ns]
theorem RepAll.bools {K : PySem.W.Frag} {G : Hp} : ∀ {ns : List Bool} {vs : List V}, RepAll K G vs (ns.map PyData.bool) → vs = ns.map V.bl
  | [], _, h => by cases h; rfl
  | n :: ns, _, h => by
    cases h with
    | cons h r =>
      cases h
      rw [RepAll.bools r]
      rfl
def anyF : List D → Option D
  | [.list ds] => match boolsOf ds with
    | some ns => some (.bool (ns.any id))
    | none => none
  | _ => none
def allF : List D → Option D
  | [.list ds] => match boolsOf ds with
    | some ns => some (.bool (ns.all id))
    | none => none
  | _ => none
theorem sc_any (hc : X.calm = true) : SemCl X Wx (.builtin "any") (cD anyF) := ⟨_, cr_any hc, semC_d fun G H xs ds d Q e rs hf k _ => by
  unfold anyF at hf
  split at hf
  · split at hf
    · rename_i ns en
      cases hf
      cases rs with
      | cons r t =>
        cases t
        cases r with
        | lst h r =>
          rw [boolsOf_eq en] at r
          rw [r.bools] at h
          exact ⟨_, _, rfl, h, k _ (.bl _)⟩
    · cases hf
  · cases hf⟩
theorem sc_all (hc : X.calm = true) : SemCl X Wx (.builtin "all") (cD allF) := ⟨_, cr_all hc, semC_d fun G H xs ds d Q e rs hf k _ => by
  unfold allF at hf
  split at hf
  · split at hf
    · rename_i ns en
      cases hf
      cases rs with
      | cons r t =>
        cases t
        cases r with
        | lst h r =>
          rw [boolsOf_eq en] at r
          rw [r.bools] at h
          exact ⟨_, _, rfl, h, k _ (.bl _)⟩
    · cases hf
  · cases hf⟩
def listF : List D → Option (List D)
  | [.list ds] => some ds
  | [.tuple ds] => some ds
  | _ => none
theorem sc_list : SemCl X Wx (.type "list") (cL listF) := ⟨_, call_list_of, semC_l fun G H xs ds d Q e rs hf k => by
  unfold listF at hf
  split at hf
  · cases hf
    cases rs with
    | cons r t =>
      cases t
      cases r with
      | lst h r => exact ⟨_, _, rfl, .inl h, k _ r⟩
  · cases hf
    cases rs with
    | cons r t =>
      cases t
      cases r with
      | tup _ h r => exact ⟨_, _, rfl, .inr h, k _ r⟩
  · cases hf⟩
def tupleF : List D → Option D
  | [.list ds] => some (.tuple ds)
  | [.tuple ds] => some (.tuple ds)
  | _ => none
theorem sc_tuple : SemCl X Wx (.type "tuple") (cD tupleF) := ⟨_, call_tuple_of, semC_d fun G H xs ds d Q e rs hf k k2 => by
  unfold tupleF at hf
  split at hf
  · cases hf
    cases rs with
    | cons r t =>
      cases t
      cases r with
      | lst h r => exact ⟨_, _, rfl, .inl ⟨h, k2 _ _ rfl r⟩⟩
  · cases hf
    cases rs with
    | cons r t =>
      cases t
      cases r with
      | tup hg h r => exact ⟨_, _, rfl, .inr ⟨h, k _ (.tup hg r)⟩⟩
  · cases hf⟩
def divF : List D → Option D
  | [.int i, .int j] => if 0 < j ∧ Builtin.divisionGoesByPylong i j = false then some (.tuple [.int (i / j), .int (i % j)]) else none
  | _ => none
theorem sc_divmod : SemCl X Wx (.builtin "divmod") (cD divF) := ⟨_, call_divmodW, semC_d fun G H xs ds d Q e rs hf k k2 => by
  unfold divF at hf
  split at hf
  · split at hf
    · rename_i hz
      cases hf
      cases rs with
      | cons r t =>
        cases t with
        | cons r' t =>
          cases t
          cases r
          cases r'
          exact ⟨_, _, rfl, hz, k2 _ _ rfl (.cons (.int _) (.cons (.int _) .nil))⟩
    · cases hf
  · cases hf⟩
end
end Py

namespace Py
open PySem PySem.Spec PyProof.Rows L2
/-! ### repr of any data -/
section
variable {P : Program} {w : World} {K : PySem.W.Frag} {H : Hp} {h : Heap}
theorem dictAt (ok : HOk P w H h) {a : Addr} {ks : List (Key × V)} (e : H a = some (.dK ks)) : (a == sysModules) = false ∧ ∃ (o : Obj) (es : Array DictEntry) (n : Nat), h.get? a = some o ∧ o.cls = .type "dict" ∧ o.data = .dict es n ∧ Vals (ks.map fun p => kV p.1) (es.toList.map (·.key)) ∧ Vals (ks.map (·.2)) (es.toList.map (·.val)) := by
  obtain ⟨h0, hs, vs, rel, o, es, n, h1, h2, h3, h4, h5, h6⟩ := ok a _ e
  refine ⟨hs, o, es, n, h1, h2.1, h3, ?_⟩
  clear h0 h1 h2 h3 h4 h6 e
  generalize es.toList = l at h5 ⊢
  induction rel generalizing l with
  | nil => cases h5; exact ⟨.nil, .nil⟩
  | cons q _ ih =>
    cases h5 with
    | cons k1 k2 k3 =>
      obtain ⟨i1, i2⟩ := ih _ k3
      refine ⟨.cons ?_ i1, .cons ?_ i2⟩
      · dsimp only; rw [q.1]
        rcases keyIs_shape k1 with ⟨i, t, e1, e2⟩ | ⟨x, t, e1, e2⟩ <;> rw [e1, e2] <;> exact ⟨_, rfl⟩
      · dsimp only; rw [k2]; exact q.2
theorem rkeys : ∀ (ks : List (Key × V)) {us : List Value}, Vals (ks.map fun p => kV p.1) us → PyData.showableAll (ks.map fun p => keyD p.1) = true → (∀ t ∈ PyData.shownAll (ks.map fun p => keyD p.1), t.length ≤ sizeLine) →
    (∃ as, ReadsAll h us (ks.map fun p => keyD p.1) as) ∧ ∀ bs d, ReprAllK P w bs h d us (PyData.shownAll (ks.map fun p => keyD p.1))
  | [], us, r, _, _ => by
    cases r
    exact ⟨⟨_, .nil⟩, fun bs d => by simp only [List.map_nil, PyData.shownAll]; exact .nil⟩
  | (k, v) :: ks, us, r, s, z => by
    cases r with
    | cons r1 r2 =>
      simp only [List.map_cons, PyData.showableAll, Bool.and_eq_true] at s
      simp only [List.map_cons, PyData.shownAll] at z
      obtain ⟨⟨as, x⟩, y⟩ := rkeys ks r2 s.2 fun t ht => z t (List.mem_cons_of_mem _ ht)
      have z1 := z _ (List.mem_cons_self ..)
      cases k with
      | inl i =>
        obtain ⟨t, rfl⟩ := r1
        refine ⟨⟨_, .cons (.int i t) x⟩, fun bs d => ?_⟩
        simp only [List.map_cons, PyData.shownAll]
        refine .cons ?_ (y bs d)
        simp only [keyD, PyData.shown]
        exact .of_is (ReprIs.int t (by simpa [keyD, PyData.showable] using s.1)) _ _ _
      | inr q =>
        obtain ⟨t, rfl⟩ := r1
        refine ⟨⟨_, .cons (.str q t) x⟩, fun bs d => ?_⟩
        simp only [List.map_cons, PyData.shownAll]
        refine .cons ?_ (y bs d)
        simp only [keyD, PyData.shown]
        exact .of_is (ReprIs.str q t (by simpa only [keyD, PyData.shown] using z1)) _ _ _
abbrev RK (P : Program) (w : World) (h : Heap) (u : Value) (d : D) : Prop := (∃ as, Reads h u d as) ∧ ∃ bs, ReadAtMost h d.depth bs ∧ ReprK P w bs h d.depth u d.shown
mutual
theorem rk (ok : HOk P w H h) : ∀ {v : V} {d : D} {u : Value}, Rep K H v d → RelV v u → d.showable = true → d.shown.length ≤ sizeLine → RK P w h u d
  | _, _, _, .non, r, _, _ => by
    cases r
    exact ⟨⟨_, .none⟩, [], (fun _ z => nomatch z), by simp only [PyData.shown]; exact .of_is ReprIs.none _ _ _⟩
  | _, _, _, .bl b, r, _, _ => by
    cases r
    exact ⟨⟨_, .bool b⟩, [], (fun _ z => nomatch z), by simp only [PyData.shown]; exact .of_is (ReprIs.bool b) _ _ _⟩
  | _, _, _, .int i, r, s, _ => by
    obtain ⟨t, rfl⟩ := r
    exact ⟨⟨_, .int i t⟩, [], (fun _ z => nomatch z), by simp only [PyData.shown]; exact .of_is (ReprIs.int t (by simpa [PyData.showable] using s)) _ _ _⟩
  | _, _, _, .str x, r, _, z => by
    obtain ⟨t, rfl⟩ := r
    exact ⟨⟨_, .str x t⟩, [], (fun _ z => nomatch z), by simp only [PyData.shown]; exact .of_is (ReprIs.str x t (by simpa only [PyData.shown] using z)) _ _ _⟩
  | _, _, _, .lst (a := a) (ds := ds) e q, r, s, z => by
    cases r
    obtain ⟨_, its, n, rv, hg⟩ := ok a _ e
    have z2 : (listText (PyData.shownAll ds)).length ≤ sizeLine := by simpa only [PyData.shown] using z
    obtain ⟨⟨as, ra⟩, bs, hb, k⟩ := rks ok q rv (by simpa [PyData.showable] using s) fun t ht => Nat.le_trans (listText_mem_le ht) z2
    have rr : Reads h (.ref a) (.list ds) (a :: as) := .list hg rfl rfl ra
    have na : a ∉ bs := not_mem_of_deeper rr (by rw [PyData.depth]; omega) hb
    refine ⟨⟨_, rr⟩, a :: bs, ReadAtMost.cons rr (by rw [PyData.depth]; omega) hb, ?_⟩
    rw [PyData.depth, PyData.shown]
    cases its with
    | nil =>
      cases rv
      cases q
      rw [PyData.shownAll, listText_nil]
      exact .listEmpty hg rfl rfl
    | cons y l => exact .list hg rfl rfl na (by simpa using k.length_eq) fun i y e => k.item i y (by simpa using e)
  | _, _, _, .tup (a := a) (ds := ds) e q, r, s, z => by
    cases r
    obtain ⟨_, its, rv, o, hg, hc, n, hd⟩ := ok a _ e
    have z2 : (tupleText (PyData.shownAll ds)).length ≤ sizeLine := by simpa only [PyData.shown] using z
    obtain ⟨⟨as, ra⟩, bs, hb, k⟩ := rks ok q rv (by simpa [PyData.showable] using s) fun t ht => Nat.le_trans (tupleText_mem_le ht) z2
    have rr : Reads h (.ref a) (.tuple ds) as := .tuple hg hc hd ra
    have na : a ∉ bs := not_mem_of_deeper rr (by rw [PyData.depth]; omega) hb
    refine ⟨⟨_, rr⟩, a :: bs, ReadAtMost.cons rr (by rw [PyData.depth]; omega) hb, ?_⟩
    rw [PyData.depth, PyData.shown]
    exact .tuple hg hc hd na k
  | _, _, _, .dic (a := a) (ks := ks) (kvs := kvs) e ek q, r, s, z => by
    cases r
    obtain ⟨hs, o, es, n, hg, hc, hd, rk1, rv⟩ := dictAt ok e
    have z2 : (dictText (PyData.shownKv kvs)).length ≤ sizeLine := by simpa only [PyData.shown] using z
    obtain ⟨hs1, hs2⟩ := PyData.showableKv_split kvs (by simpa [PyData.showable] using s)
    have zk : ∀ t ∈ PyData.shownAll (kvs.map (·.1)), t.length ≤ sizeLine := fun t ht => let ⟨p, hp, hl⟩ := PyData.shownKv_key_le kvs t ht; Nat.le_trans hl (Nat.le_trans (dictText_mem_le hp) z2)
    rw [ek] at hs1 zk
    obtain ⟨⟨as1, x1⟩, k1⟩ := rkeys (P := P) (w := w) (h := h) ks rk1 hs1 zk
    obtain ⟨⟨as2, x2⟩, b2, m2, k2⟩ := rks ok q rv hs2 (fun t ht => let ⟨p, hp, hl⟩ := PyData.shownKv_val_le kvs t ht; Nat.le_trans hl (Nat.le_trans (dictText_mem_le hp) z2))
    have rr : Reads h (.ref a) (.dict kvs) _ := .dict hg hc hd (by rw [ek]; exact x1) x2
    have hb : ReadAtMost h (PyData.depthKv kvs) b2 := m2.mono (PyData.depthAll_vals_le kvs)
    have hna : a ∉ b2 := not_mem_of_deeper rr (by simp only [PyData.depth]; omega) hb
    refine ⟨⟨_, rr⟩, a :: b2, ReadAtMost.cons rr (by simp only [PyData.depth]; omega) hb, ?_⟩
    simp only [PyData.depth, PyData.shown, PyData.shownKv_eq]
    exact .dict hg hc hd hs hna (ReprEntriesK.of_two es.toList _ _ (by rw [ek]; exact k1 _ _) (k2.more_le (fun b hb => hb) (PyData.depthAll_vals_le kvs)))
theorem rks (ok : HOk P w H h) : ∀ {vs : List V} {ds : List D} {us : List Value}, RepAll K H vs ds → Vals vs us → PyData.showableAll ds = true → (∀ t ∈ PyData.shownAll ds, t.length ≤ sizeLine) →
    (∃ as, ReadsAll h us ds as) ∧ ∃ bs, ReadAtMost h (PyData.depthAll ds) bs ∧ ReprAllK P w bs h (PyData.depthAll ds) us (PyData.shownAll ds)
  | _, _, _, .nil, r, _, _ => by
    cases r
    exact ⟨⟨_, .nil⟩, [], (fun _ z => nomatch z), by simp only [PyData.shownAll]; exact .nil⟩
  | _, _, _, .cons (d := d) (ds := ds) q qs, r, s, z => by
    cases r with
    | cons r1 r2 =>
      rw [PyData.showableAll, Bool.and_eq_true] at s
      rw [PyData.shownAll] at z
      obtain ⟨⟨a1, x1⟩, b1, m1, k1⟩ := rk ok q r1 s.1 (z _ (List.mem_cons_self ..))
      obtain ⟨⟨a2, x2⟩, b2, m2, k2⟩ := rks ok qs r2 s.2 fun t ht => z t (List.mem_cons_of_mem _ ht)
      refine ⟨⟨_, .cons x1 x2⟩, b1 ++ b2, ?_, ?_⟩
      · rw [PyData.depthAll]
        exact (m1.mono (Nat.le_max_left _ _)).append (m2.mono (Nat.le_max_right _ _))
      · rw [PyData.depthAll, PyData.shownAll]
        exact .cons ((k1.more fun b hb => List.mem_append_left _ hb).level_le (Nat.le_max_left _ _)) (k2.more_le (fun b hb => List.mem_append_right _ hb) (Nat.le_max_right _ _))
end
end
section
variable {X : Cx} {Wx : WX}
def rRepr (K : PySem.W.Frag) : List V → Hp → VK → Prop := fun xs H Q => ∃ v d, xs = [v] ∧ Rep K H v d ∧ d.showable = true ∧ d.depth ≤ 64 ∧ d.shown.length ≤ lim ∧ Q (.str d.shown) H
theorem cr_repr (hgd : X.A.guards = some []) (hu : X.A.units + 66 < cLine) : CallR X (.builtin "repr") (rRepr X.K) := by
  intro pins s σ H xs us Q I r h
  obtain ⟨v, d, rfl, q, hs, hd, hz, k⟩ := h
  obtain ⟨u, rfl, ru⟩ := vals1 r
  rw [lim_eq] at hz
  have fin : ∀ {h' : Heap} {t tk : Nat}, (∀ b o, s.heap.get? b = some o → h'.get? b = some o) → EP X pins σ Q (.str d.shown t) { s with heap := h', toks := tk } := fun kk => ⟨.str d.shown, H, I.kept kk, ⟨_, rfl⟩, k⟩
  have tok : ∀ {t tk : Nat}, EP X pins σ Q (.str d.shown t) { s with toks := tk } := fun {t tk} => ⟨.str d.shown, H, I.tok tk, ⟨_, rfl⟩, k⟩
  cases q with
  | non => cases ru; simp only [PyData.shown] at tok; exact PySem.P.repr_of_none tok
  | bl b => cases ru; simp only [PyData.shown] at tok; exact PySem.P.repr_of_bool tok
  | int i => obtain ⟨t, rfl⟩ := ru; simp only [PyData.shown] at tok; exact PySem.P.repr_of_int (by simpa [PyData.showable] using hs) tok
  | str x => obtain ⟨t, rfl⟩ := ru; simp only [PyData.shown] at tok hz; exact PySem.P.repr_of_str tok hz
  | @lst a xs ds e q =>
    cases ru
    obtain ⟨_, its, n, rv, hg⟩ := I.hok a _ e
    rw [PyData.depth] at hd
    simp only [PyData.shown] at hz fin
    obtain ⟨⟨as, ra⟩, bs, hb, kk⟩ := rks I.hok q rv (by simpa [PyData.showable] using hs) fun t ht => Nat.le_trans (listText_mem_le ht) hz
    have rr : Reads s.heap (.ref a) (.list ds) (a :: as) := .list hg rfl rfl ra
    have na : a ∉ bs := not_mem_of_deeper rr (by rw [PyData.depth]; omega) hb
    refine call_repr_slot (by omega) (T := "list") (idr := "list.__repr__") ⟨_, hg, rfl⟩ F.slot_list_repr.toG ?_
    cases its with
    | nil =>
      cases rv
      cases q
      rw [PyData.shownAll, listText_nil] at fin
      exact call_list_repr_empty ⟨_, hg, rfl⟩ hg rfl ⟨_, _, rfl, fin fun _ _ e => e⟩
    | cons y l =>
      exact call_list_reprK hg rfl rfl na (by simpa using kk.length_eq) (fun i y e => kk.item i y (by simpa using e)) hgd (fun b _ => Clear.nil b) (by show X.A.units + 1 + _ < cLine; omega) (fun _ _ e => e) (fun h' u tk k => ⟨_, _, rfl, fin k⟩) hz
  | @tup a xs ds e q =>
    cases ru
    obtain ⟨_, its, rv, o, hg, hc, n, hdt⟩ := I.hok a _ e
    rw [PyData.depth] at hd
    simp only [PyData.shown] at hz fin
    obtain ⟨⟨as, ra⟩, bs, hb, kk⟩ := rks I.hok q rv (by simpa [PyData.showable] using hs) fun t ht => Nat.le_trans (tupleText_mem_le ht) hz
    have rr : Reads s.heap (.ref a) (.tuple ds) as := .tuple hg hc hdt ra
    have na : a ∉ bs := not_mem_of_deeper rr (by rw [PyData.depth]; omega) hb
    refine call_repr_slot (by omega) (T := "tuple") (idr := "tuple.__repr__") ⟨_, hg, hc⟩ F.slot_tuple_repr ?_
    exact call_tuple_reprK hg hc hdt na kk hgd (fun b _ => Clear.nil b) (by show X.A.units + 1 + _ < cLine; omega) (fun _ _ e => e) (fun h' u tk k => ⟨_, _, rfl, fin k⟩) hz
  | @dic a ks kvs e ek q =>
    cases ru
    obtain ⟨hsy, o, es, n, hg, hc, hdt, rk1, rv⟩ := dictAt I.hok e
    rw [PyData.depth] at hd
    simp only [PyData.shown] at hz fin
    obtain ⟨hs1, hs2⟩ := PyData.showableKv_split kvs (by simpa [PyData.showable] using hs)
    have zk : ∀ t ∈ PyData.shownAll (kvs.map (·.1)), t.length ≤ sizeLine := fun t ht => let ⟨p, hp, hl⟩ := PyData.shownKv_key_le kvs t ht; Nat.le_trans hl (Nat.le_trans (dictText_mem_le hp) hz)
    rw [ek] at hs1 zk
    obtain ⟨⟨as1, x1⟩, k1⟩ := rkeys (P := X.prog) (w := X.w) (h := s.heap) ks rk1 hs1 zk
    obtain ⟨⟨as2, x2⟩, b2, m2, k2⟩ := rks I.hok q rv hs2 (fun t ht => let ⟨p, hp, hl⟩ := PyData.shownKv_val_le kvs t ht; Nat.le_trans hl (Nat.le_trans (dictText_mem_le hp) hz))
    have rr : Reads s.heap (.ref a) (.dict kvs) _ := .dict hg hc hdt (by rw [ek]; exact x1) x2
    have hb : ReadAtMost s.heap (PyData.depthKv kvs) b2 := m2.mono (PyData.depthAll_vals_le kvs)
    have hna : a ∉ b2 := not_mem_of_deeper rr (by simp only [PyData.depth]; omega) hb
    rw [PyData.shownKv_eq] at hz fin
    refine call_repr_slot (by omega) (T := "dict") (idr := "dict.__repr__") ⟨_, hg, hc⟩ F.slot_dict_repr ?_
    exact call_dict_reprK hg hc hdt hsy hna (ReprEntriesK.of_two es.toList _ _ (by rw [ek]; exact k1 _ _) (k2.more_le (fun b hb => hb) (PyData.depthAll_vals_le kvs))) hgd (fun b _ => Clear.nil b) (by show X.A.units + 1 + _ < cLine; omega) (fun _ _ e => e) (fun h' u tk k => ⟨_, _, rfl, fin k⟩) hz
def reprF : List D → Option D
  | [d] => if d.showable && decide (d.depth ≤ 64) && decide (d.shown.length ≤ lim) then some (.str d.shown) else none
  | _ => none
/-- the argument as data -/
def cV (f : List D → Option D) : List W → Env' → Option (R W) := fun ws ρ => match ws with
  | [w] => match view ρ w with
    | some d => match f [d] with
      | some d => some (.ok (.dat d) ρ)
      | none => none
    | none => none
  | _ => none
theorem sc_repr (hgd : X.A.guards = some []) (hu : X.A.units + 66 < cLine) : SemCl X Wx (.builtin "repr") (cV reprF) := by
  refine ⟨_, cr_repr hgd hu, ?_⟩
  intro g σ H0 H ρ vs ws Q S rs p
  unfold cV at p
  split at p
  · rename_i w
    cases rs with
    | cons r _ t _ =>
      cases t
      split at p
      · rename_i d ed
        split at p
        · rename_i d' ef
          simp only [reprF] at ef
          by_cases hh : (d.showable && decide (d.depth ≤ 64) && decide (d.shown.length ≤ lim)) = true
          · rw [if_pos hh] at ef
            have ef := Option.some.inj ef
            subst ef
            simp only [Bool.and_eq_true, decide_eq_true_eq] at hh
            exact ⟨_, d, rfl, (view_rep S r ed).rep S.sub.1, hh.1.1, hh.1.2, hh.2, PostE.dat S p (.str _)⟩
          · rw [if_neg hh] at ef
            cases ef
        · exact p.elim
      · exact p.elim
  · exact p.elim
end
end Py

namespace Py
open PySem PySem.Spec PyProof.Rows L2
/-! ### set(xs), xs a list of ints -/
section
variable {P : Program} {w : World} {A : Around} {E : Value → Shared → Prop} {s : Shared}
/-- the object of a set that was just made -/
abbrev set0 (w : World) : Obj := { cls := .type "set", dict := none, data := .set #[] 0 (.fresh 0 0 (!w.params.followText "set-order")) }
abbrev with0 (w : World) (s : Shared) : Shared := { s with heap := s.heap.push (set0 w) }
/-- what is so once the set is filled -/
def Filled (w : World) (s : Shared) (ns : List Int) (s2 : Shared) : Prop := ∃ h' tk c, s2 = { s with heap := h', toks := tk } ∧ SetR w h' s.heap.objs.size (fun j => decide (j ∈ ns)) c ∧ c ≤ ns.length ∧ ∀ b o, s.heap.get? b = some o → h'.get? b = some o
/-- the filling, from the list's iterator -/
theorem fill {l : Addr} {its : Array Value} (ns : List Int) (hh : A.handled = none) (hl : s.heap.IsList l its) (hit : IntsAre its.toList ns) (hb : ns.length + 1 < scanBound) {R : Result → Shared → Prop}
    (k : ∀ s2, Filled w s ns s2 → R (.ok (.ret .none)) s2) :
    codeAny (model P w) A (.builtin "set.update.loop" ⟨[.ref s.heap.objs.size, .ref (with0 w s).heap.objs.size], []⟩) R { s with heap := (with0 w s).heap.push { cls := .type "list_iterator", data := .fields #[.ref l, .int 0 0] } } := by
  have sz : its.size = ns.length := by
    rw [← IntsAre.length hit, Array.length_toList]
  have ll : l < s.heap.objs.size := let ⟨_, h, _⟩ := hl; Heap.lt_size h
  have e1 : (with0 w s).heap.objs.size = s.heap.objs.size + 1 := Heap.size_push ..
  have get0 : ∀ {b : Addr} {o : Obj} {x : Obj}, s.heap.get? b = some o → ((with0 w s).heap.push x).get? b = some o := fun e => Heap.get?_push_of_some _ (Heap.get?_push_of_some _ e)
  have nl : l ≠ (with0 w s).heap.objs.size := fun e => absurd ll (by rw [e, e1]; exact Nat.not_lt_of_le (Nat.le_succ _))
  have vals : ∀ (i : Nat) (v : Value), its[i]? = some v → ∃ k t, ns[i]? = some k ∧ v = .int k t := by
    intro i v hv
    have hi : i < ns.length := by
      rw [← sz]
      exact (Array.getElem?_eq_some_iff.mp hv).1
    obtain ⟨t, e⟩ := PyProof.Rows.IntsAre.int_at hit i v (by simpa using hv)
    exact ⟨ns[i], t, by simp [hi], by rw [e]; simp [hi]⟩
  obtain ⟨ol, h1, h2, n, h3⟩ := hl
  have hle : ((with0 w s).heap.push { cls := .type "list_iterator", data := .fields #[.ref l, .int 0 0] }).IsList l its := ⟨ol, get0 h1, h2, n, h3⟩
  have hset : ((with0 w s).heap.push { cls := .type "list_iterator", data := .fields #[.ref l, .int 0 0] }).get? s.heap.objs.size = some (set0 w) := Heap.get?_push_of_some _ (Heap.get?_push_size _ rfl)
  refine set_update_ints (Walks.list (A := A.in1) (by simp [hh]) _ l nl its).toS s.heap.objs.size (fun z => by
    rcases List.mem_cons.mp z with z | z
    · rw [e1] at z; exact absurd z (Nat.ne_of_lt (Nat.lt_succ_self _))
    · rw [List.mem_singleton.mp z] at ll; exact absurd ll (Nat.lt_irrefl _)) ns sz hb vals _ 0 _ rfl (Nat.zero_le _) ⟨⟨_, Heap.get?_push_size _ rfl, rfl, rfl⟩, hle⟩ ⟨0, Nat.le_refl _, setR_new_at hset⟩ ?_
  intro s2 c m hc hS
  refine k s2 ⟨s2.heap, s2.toks, c, ?_, hS, by rw [← sz]; exact hc, fun b o e => ?_⟩
  · have g1 := m.gens
    have g2 := m.drawn
    have g3 := m.os
    cases s2
    cases g1
    cases g2
    cases g3
    rfl
  · have hb0 : b < s.heap.objs.size := Heap.lt_size e
    refine m.heap b o (fun z => ?_) (get0 e)
    rcases List.mem_cons.mp z with z | z
    · rw [z] at hb0; exact absurd hb0 (Nat.lt_irrefl _)
    · rw [List.mem_singleton.mp z, e1] at hb0; exact absurd hb0 (Nat.not_lt_of_le (Nat.le_succ _))
theorem set_listI {l : Addr} {its : Array Value} (ns : List Int) {Q : Value → Shared → Prop} (hh : A.handled = none) (hl : s.heap.IsList l its) (hit : IntsAre its.toList ns) (hb : ns.length + 1 < scanBound)
    (q : ∀ s2, Filled w s ns s2 → Q (.ref s.heap.objs.size) s2) : wpAny (model P w) A (call (.type "set") [.ref l]) Q E s := by
  obtain ⟨_, _, hmro⟩ := F.called_set.mro
  have f1 := F.called_set.made
  have f2 := F.called_set.sub
  have f3 := F.called_set.notType
  have f4 := F.called_set.canCreate
  have f5 := F.typeCall_set_1 (.ref l)
  refine wpAny_call (codeAny_of_tree ?_)
  show wpAny _ _ (callAny (.type "set") _) _ _ _
  refine wpAny_pure ⟨Code.quiet_builtin _ (by decide +kernel), codeAny_builtin F.entry_type_call ?_⟩
  rw [Around.under_plain (weight_type_call_type "set" [.ref l] []) rfl]
  repeat (any_goals (first | assumption | wp_step))
  refine codeAny_mono (code_set_led1 (.ref l) (E := E) (Q₁ := fun v s1 => v = .ref s.heap.objs.size ∧ s1 = with0 w s) ⟨rfl, rfl⟩) fun r s1 hr => ?_
  cases r with
  | error e => exact hr
  | ok fl =>
    cases fl with
    | ret v =>
      obtain ⟨rfl, rfl⟩ := hr
      have at0 : (with0 w s).heap.get? s.heap.objs.size = some (set0 w) := Heap.get?_push_size _ rfl
      have hT : (with0 w s).TypeIs (.ref s.heap.objs.size) "set" := ⟨_, at0, rfl⟩
      have f6 := F.called_set.init.lookup
      have f7 := F.called_set.init.bind (.ref s.heap.objs.size)
      repeat (any_goals (first | assumption | wp_step))
      refine codeAny_mono (codeAny_call_builtin (R := wants (fun v s2 => v = .none ∧ Filled w s ns s2) E) F.called_set.init.plain F.entry_set_init (check_set_init_1 hT ?_)) fun r2 s2 hr2 => ?_
      · have hl2 := hl
        obtain ⟨ol, h1, h2, n, h3⟩ := hl2
        obtain ⟨ocls, odict, odata, oslots⟩ := ol
        simp only at h2 h3
        subst h2 h3
        have h1' : (with0 w s).heap.get? l = some { cls := .type "list", dict := odict, data := .seq its n, slots := oslots } := Heap.get?_push_of_some _ h1
        have f8 := F.sub_list_set
        have f9 := F.sub_list_frozenset
        have f10 : (Value.type "list" == Value.type "dict") = false := by decide
        have hle : (with0 w s).heap.IsList l its := ⟨_, h1', rfl, n, rfl⟩
        unfold Builtin.«set.__init__» noKeywords Builtin.Frozenset.updateFrom
        generalize hPI : pyIter = PI
        wp_walk
        subst hPI
        refine wpAny_pyIter_list hle ?_
        refine wpAny_bind (wpAny_runValue ?_)
        refine fill ns (by simp [hh]) hl hit hb fun s2 hf => ?_
        refine wpAny_pure ?_
        show wpAny _ _ (ret Value.none) _ _ _
        exact wpAny_pure ⟨rfl, hf⟩
      · cases r2 with
        | error e => exact hr2
        | ok fl2 =>
          cases fl2 with
          | ret v2 =>
            obtain ⟨rfl, hf⟩ := hr2
            repeat (any_goals (first | assumption | wp_step))
            exact q _ hf
          | _ => exact hr2.elim
    | _ => exact hr.elim
end
end Py

namespace Py
open PySem PySem.Spec PyProof.Rows L2
/-! ### each int once, in order -/
def insU (n : Int) : List Int → List Int
  | [] => [n]
  | m :: ms => if n < m then n :: m :: ms else if n = m then m :: ms else m :: insU n ms
def sortU : List Int → List Int
  | [] => []
  | n :: ns => insU n (sortU ns)
theorem mem_insU {n x : Int} : ∀ {ms : List Int}, x ∈ insU n ms ↔ x = n ∨ x ∈ ms
  | [] => by simp [insU]
  | m :: ms => by
    unfold insU
    split
    · simp
    · split
      · rename_i h; subst h; simp
      · simp only [List.mem_cons, mem_insU (ms := ms)]
        constructor
        · rintro (h | h | h) <;> simp [h]
        · rintro (h | h | h) <;> simp [h]
theorem mem_sortU {x : Int} : ∀ {ns : List Int}, x ∈ sortU ns ↔ x ∈ ns
  | [] => by simp [sortU]
  | n :: ns => by simp [sortU, mem_insU, mem_sortU (ns := ns)]
theorem insU_lt {n : Int} : ∀ {ms : List Int}, ms.Pairwise (· < ·) → (insU n ms).Pairwise (· < ·)
  | [], _ => by simp [insU]
  | m :: ms, h => by
    have h' := List.pairwise_cons.mp h
    unfold insU
    split
    · rename_i lt
      refine List.pairwise_cons.mpr ⟨fun y hy => ?_, h⟩
      rcases List.mem_cons.mp hy with e | hy
      · rw [e]; exact lt
      · have := h'.1 y hy; omega
    · split
      · exact h
      · refine List.pairwise_cons.mpr ⟨fun y hy => ?_, insU_lt h'.2⟩
        rcases mem_insU.mp hy with e | hy
        · rw [e]; omega
        · exact h'.1 y hy
theorem sortU_lt : ∀ ns : List Int, (sortU ns).Pairwise (· < ·)
  | [] => .nil
  | n :: ns => insU_lt (sortU_lt ns)
theorem lt_unique : ∀ {a b : List Int}, a.Pairwise (· < ·) → b.Pairwise (· < ·) → (∀ x, x ∈ a ↔ x ∈ b) → a = b
  | [], [], _, _, _ => rfl
  | [], y :: b, _, _, h => absurd ((h y).mpr (by simp)) (by simp)
  | x :: a, [], _, _, h => absurd ((h x).mp (by simp)) (by simp)
  | x :: a, y :: b, p, q, h => by
    have p' := List.pairwise_cons.mp p
    have q' := List.pairwise_cons.mp q
    have e : x = y := by
      have h1 := (h x).mp (by simp)
      have h2 := (h y).mpr (by simp)
      rcases List.mem_cons.mp h1 with h1 | h1
      · exact h1
      · rcases List.mem_cons.mp h2 with h2 | h2
        · exact h2.symm
        · have := q'.1 x h1; have := p'.1 y h2; omega
    subst e
    rw [lt_unique p'.2 q'.2 fun z => ?_]
    have hz := h z
    simp only [List.mem_cons] at hz
    constructor
    · intro m
      rcases hz.mp (.inr m) with e | m'
      · subst e; have := p'.1 z m; omega
      · exact m'
    · intro m
      rcases hz.mpr (.inr m) with e | m'
      · subst e; have := q'.1 z m; omega
      · exact m'
theorem nodup_le : ∀ {a b : List Int}, a.Nodup → (∀ x, x ∈ a → x ∈ b) → a.length ≤ b.length
  | [], b, _, _ => Nat.zero_le _
  | x :: a, b, h, m => by
    have h' := List.nodup_cons.mp h
    have hx := m x (by simp)
    have q := nodup_le (b := b.erase x) h'.2 fun y hy => (List.mem_erase_of_ne (by intro e; subst e; exact h'.1 hy)).mpr (m y (by simp [hy]))
    rw [List.length_erase_of_mem hx] at q
    have := List.length_pos_of_mem hx
    simp only [List.length_cons]
    omega
theorem same_len : ∀ {a b : List Int}, a.Nodup → b.Nodup → (∀ x, x ∈ a ↔ x ∈ b) → a.length = b.length := by
  intro a b ha hb h
  have h1 : a.length ≤ b.length := nodup_le ha fun x hx => (h x).mp hx
  have h2 : b.length ≤ a.length := nodup_le hb fun x hx => (h x).mpr hx
  omega
theorem sortU_nodup (ns : List Int) : (sortU ns).Nodup := (sortU_lt ns).imp fun h => Int.ne_of_lt h
section
variable {X : Cx} {Wx : WX}
theorem setR_count {w : World} {h : Heap} {a : Addr} {ns : List Int} {c : Nat} (R : SetR w h a (fun j => decide (j ∈ ns)) c) : c = (sortU ns).length := by
  obtain ⟨o, es, ep, t, _, _, _, _, nd, m, _, _, e, _⟩ := R
  rw [← e, ← Array.length_toList, ← List.length_map (f := keyOf)]
  refine same_len nd (sortU_nodup ns) fun x => ?_
  rw [mem_sortU, ← m x]
  simp
/-- set(xs), a list or a tuple of ints -/
def rSetI (K : PySem.W.Frag) (w : World) : List V → Hp → VK → Prop := fun xs H Q => ∃ a ns, xs = [.ref a] ∧ (SqL K H a (ns.map V.int) ∨ SqT K H a (ns.map V.int)) ∧ ns.length ≤ 1000 ∧
  ∀ p, H p = none → Q (.ref p) (upd H p (SetO w p (fun j => decide (j ∈ ns)) (sortU ns).length))
theorem bound1000 {n : Nat} (h : n ≤ 1000) : n + 1 < scanBound := by
  have : scanBound = 4096 := rfl
  omega
theorem cr_setI (hc : X.calm = true) : CallR X (.type "set") (rSetI X.K X.w) := by
  intro pins s σ H vs us Q I r h
  obtain ⟨a, ns, rfl, hs, hz, q⟩ := h
  rw [Vals.ref1 r]
  have fin : ∀ {h' : Heap} {tk c : Nat}, SetR X.w h' s.heap.objs.size (fun j => decide (j ∈ ns)) c → (∀ b o, s.heap.get? b = some o → h'.get? b = some o) → EP X pins σ Q (.ref s.heap.objs.size) { s with heap := h', toks := tk } := fun {h' tk c} R k => by
    have e := setR_count R
    subst e
    exact ⟨.ref _, _, I.laid k (Nat.le_refl _) (setO_new R), rfl, q _ (I.hok.fresh (Nat.le_refl _))⟩
  rcases hs with hs | hs
  · obtain ⟨its, rv, hl, _⟩ := I.list hs
    refine set_listI ns (I.ok.hd hc) hl.isList (by simpa using rv.ints) (bound1000 hz) fun s2 hf => ?_
    obtain ⟨h', tk, c, rfl, R, _, k⟩ := hf
    exact fin R k
  · obtain ⟨its, rv, hl, _⟩ := I.tuple hs
    refine call_set_tupI ns (I.ok.hd hc) hl (by simpa using rv.ints) (bound1000 hz) fun h' tk c R _ k => fin R k
theorem RepAll.ints2 {K : PySem.W.Frag} {G : Hp} {vs : List V} {ds : List D} {ns : List Int} (r : RepAll K G vs ds) (h : intsOf ds = some ns) : vs = ns.map V.int := r.toInts h
/-- the ints of a list or of a tuple -/
def intsIn : D → Option (List Int)
  | .list ds => intsOf ds
  | .tuple ds => intsOf ds
  | _ => none
theorem RepS.ints {G H : Hp} {v : V} {d : D} {ns : List Int} (r : RepS X.K G H v d) (h : intsIn d = some ns) : ∃ a, v = .ref a ∧ (SqL X.K H a (ns.map V.int) ∨ SqT X.K H a (ns.map V.int)) := by
  cases r with
  | lst h' r => rw [r.toInts h] at h'; exact ⟨_, rfl, .inl h'⟩
  | tup _ h' r => rw [r.toInts h] at h'; exact ⟨_, rfl, .inr h'⟩
  | _ => cases h
def sortSetF (ws : List W) (ρ : Env') : Option (R W) := match viewsS ρ ws with
  | some [d] => match intsIn d with
    | some ns => if ns.length ≤ 1000 ∧ (sortU ns).length < 64 then some (.ok (.fresh (.lst ((sortU ns).map PyData.int))) ρ) else none
    | none => none
  | _ => none
theorem okSortSet {e : Expr} {sa : AS} {p1 p2 q1 q2 : Pos} (hc : X.calm = true) (hg : Gl X "sorted") (hm : X.mg "sorted" = none) (hg2 : Gl X "set") (hm2 : X.mg "set" = none) (ha : OkA X Wx [e] sa)
    (he : starEach [e] X.env = (false, eval e X.env) :: starEach [] X.env := by rfl) : OkE X Wx (.Call (.Name "sorted" p1) [.Call (.Name "set" p2) [e] [] q1] [] q2) (callS sortSetF sa) := by
  obtain ⟨t, p, q⟩ := ha
  refine ⟨_, pe_callB (cr_sortedSet hc) hg hm PyProof.Rows.boot_sorted (pa_cons (pe_callTy (cr_setI hc) hg2 hm2 boot_set p (he := he)) pa_nil), fun g σ H ρ Q S h => q g σ H ρ _ S (PostG.bind later_E h ?_)⟩
  intro ws ρ1 g1 H1 vs _ e1 S1 r1 h1
  unfold sortSetF at h1
  split at h1
  · rename_i d ed
    split at h1
    · rename_i ns en
      split at h1
      · rename_i hz
        have rs := viewsS_rep S1 r1 ed
        cases rs with
        | cons r t =>
          cases t
          obtain ⟨a, rfl, hs⟩ := r.ints en
          refine ⟨a, ns, rfl, hs, hz.1, fun pp hp => ⟨_, _, _, rfl, upd_same, hz.2, fun ns' p' h1' h2' _ hp' => ?_⟩⟩
          have e : ns' = sortU ns := lt_unique h1' (sortU_lt ns) fun x => by rw [h2' x, mem_sortU]; simp
          subst e
          obtain ⟨x2, S2⟩ := S1.lay (o := SetO X.w pp (fun j => decide (j ∈ ns)) (sortU ns).length) hp
          exact PostE.newList S2 (PostG.shift later_E x2 h1) (RepAll.ofInts _) hp'
      · exact h1.elim
    · exact h1.elim
  · exact h1.elim
def rLenSet (w : World) : List V → Hp → VK → Prop := fun vs H Q => ∃ (a : Addr) (S : Int → Bool) (n : Nat), vs = [V.ref a] ∧ H a = some (SetO w a S n) ∧ Q (.int (n : Nat)) H
theorem cr_lenSet : CallR X (.builtin "len") (rLenSet X.w) := by
  intro pins s σ H vs us Q I r h
  obtain ⟨a, S, n, rfl, ha, q⟩ := h
  rw [Vals.ref1 r]
  obtain ⟨o, es, ep, t, ho, hx, hd, _, _, _, hb, hf, rfl, _⟩ := setO_get I ha
  have hs : scanBound = 4096 := rfl
  exact call_len_set ho hx hd hf (by omega) ⟨.int _, H, I.tok _, ⟨_, rfl⟩, q⟩
def lenSetF (ws : List W) (ρ : Env') : Option (R W) := match viewsS ρ ws with
  | some [d] => match intsIn d with
    | some ns => if ns.length ≤ 1000 then some (.ok (.dat (.int ((sortU ns).length : Nat))) ρ) else none
    | none => none
  | _ => none
theorem okLenSet {e : Expr} {sa : AS} {p1 p2 q1 q2 : Pos} (hc : X.calm = true) (hg : Gl X "len") (hm : X.mg "len" = none) (hg2 : Gl X "set") (hm2 : X.mg "set" = none) (ha : OkA X Wx [e] sa)
    (he : starEach [e] X.env = (false, eval e X.env) :: starEach [] X.env := by rfl) : OkE X Wx (.Call (.Name "len" p1) [.Call (.Name "set" p2) [e] [] q1] [] q2) (callS lenSetF sa) := by
  obtain ⟨t, p, q⟩ := ha
  refine ⟨_, pe_callB cr_lenSet hg hm boot_len (pa_cons (pe_callTy (cr_setI hc) hg2 hm2 boot_set p (he := he)) pa_nil), fun g σ H ρ Q S h => q g σ H ρ _ S (PostG.bind later_E h ?_)⟩
  intro ws ρ1 g1 H1 vs _ e1 S1 r1 h1
  unfold lenSetF at h1
  split at h1
  · rename_i d ed
    split at h1
    · rename_i ns en
      split at h1
      · rename_i hz
        have rs := viewsS_rep S1 r1 ed
        cases rs with
        | cons r t =>
          cases t
          obtain ⟨a, rfl, hs⟩ := r.ints en
          refine ⟨a, ns, rfl, hs, hz, fun pp hp => ⟨_, _, _, rfl, upd_same, ?_⟩⟩
          obtain ⟨x2, S2⟩ := S1.lay (o := SetO X.w pp (fun j => decide (j ∈ ns)) (sortU ns).length) hp
          exact PostE.dat S2 (PostG.shift later_E x2 h1) (.int _)
      · exact h1.elim
    · exact h1.elim
  · exact h1.elim
/-! ### sorted(xs) -/
def isAtomHead : D → Bool
  | .none => false
  | .tuple _ => false
  | _ => true
def isTupHead : D → Bool
  | .tuple (_ :: _) => true
  | _ => false
def sortOk (ds : List D) : Bool := PyData.canLayAll0 ds && ds.all (fun d => ds.all fun e => PySem.W.alike d e) && (ds.all isAtomHead || ds.all isTupHead) && ds.all (fun d => decide (d.depth ≤ 60)) && decide (ds.length ≤ lim)
def sortD (ds : List D) : List D := ds.mergeSort (PySem.W.dataLe false fun d => d)
def rSortD (K : PySem.W.Frag) : List V → Hp → VK → Prop := fun vs H Q => ∃ (a : Addr) (xs : List V) (ds : List D) (Z : V → D → Prop), vs = [.ref a] ∧ SqL K H a xs ∧ RepAll K H xs ds ∧ Paired Z xs ds ∧ sortOk ds = true ∧
  ∀ ys p, Paired Z ys (sortD ds) → H p = none → Q (.ref p) (upd H p (.lst ys))
theorem each_of {Z : V → D → Prop} : ∀ {xs : List V} {ds : List D} {us : List Value}, Paired Z xs ds → Vals xs us → PySem.W.EachIs (fun u d => ∃ x, RelV x u ∧ Z x d) us ds
  | _, _, _, .nil, r => by cases r; exact .nil
  | _, _, _, .cons h t, r => by
    cases r with
    | cons r1 r2 => exact .cons ⟨_, r1, h⟩ (each_of t r2)
theorem of_each {Z : V → D → Prop} : ∀ {us : List Value} {ds : List D}, PySem.W.EachIs (fun u d => ∃ x, RelV x u ∧ Z x d) us ds → ∃ xs, Vals xs us ∧ Paired Z xs ds
  | _, _, .nil => ⟨[], .nil, .nil⟩
  | _, _, .cons ⟨x, r, z⟩ t => let ⟨xs, rs, zs⟩ := of_each t; ⟨x :: xs, .cons r rs, .cons z zs⟩
theorem cr_sortD (hu : X.A.units + 64 < cLine) : CallR X (.builtin "sorted") (rSortD X.K) := by
  intro pins s σ H vs us Q I r h
  obtain ⟨a, xs, ds, Z, rfl, hs, hr, hz, ho, q⟩ := h
  obtain ⟨its, rv, hl, hlen⟩ := I.list hs
  rw [Vals.ref1 r]
  unfold sortOk at ho
  simp only [Bool.and_eq_true, Bool.or_eq_true, List.all_eq_true, decide_eq_true_eq] at ho
  obtain ⟨⟨⟨⟨h1, h2⟩, h3⟩, h4⟩, h5⟩ := ho
  obtain ⟨as, ra⟩ := Dp.readsAll I ds xs its (hr.dp h1) rv
  have er : PySem.W.EachIs (fun v b => ∃ as, Reads s.heap v ((fun d => d) b) as) its ds := PySem.W.readsAll_each (fun d => d) (by simpa using ra)
  refine PySem.W.sorted_data (vs := its) (bs := ds) (enc := fun d => d) hl.isList (each_of hz rv) er ?_ ?_ (by rw [← lim_eq]; exact h5) (fun b hb => ?_) fun out ho he => ?_
  · rw [List.map_id']
    exact fun d hd d' hd' => h2 d hd d' hd'
  · rw [List.map_id']
    rcases h3 with h3 | h3
    · exact .inr fun d hd => by
        have := h3 d hd
        refine ⟨fun e => ?_, fun ys e => ?_⟩ <;> (rw [e] at this; cases this)
    · exact .inl fun d hd => by
        have := h3 d hd
        unfold isTupHead at this
        split at this
        · exact ⟨_, _, rfl⟩
        · cases this
  · have := h4 b hb
    show X.A.units + 2 + b.depth < cLine
    omega
  · obtain ⟨ys, ry, zy⟩ := of_each he
    obtain ⟨ep, he'⟩ := PyProof.Rows.sortedAll_at s.heap its out.toArray
    exact ⟨.ref _, upd H (s.heap.objs.size + 1) (.lst ys), I.laid (t' := s.toks) (fun _ _ => PyProof.Rows.sortedAll_old) (Nat.le_succ _) ⟨by rw [ry.length, ho, ← lim_eq]; exact h5, out, ep, ry, he'⟩, rfl, q _ _ zy (I.hok.fresh (Nat.le_succ _))⟩
def sortF : List D → Option (List D)
  | [.list ds] => if sortOk ds then some (sortD ds) else none
  | _ => none
theorem RepAll.paired {K : PySem.W.Frag} {G : Hp} : ∀ {vs : List V} {ds : List D}, RepAll K G vs ds → Paired (Rep K G) vs ds
  | _, _, .nil => .nil
  | _, _, .cons h r => .cons h r.paired
theorem RepAll.ofPaired {K : PySem.W.Frag} {G : Hp} : ∀ {vs : List V} {ds : List D}, Paired (Rep K G) vs ds → RepAll K G vs ds
  | _, _, .nil => .nil
  | _, _, .cons h r => .cons h (RepAll.ofPaired r)
theorem sc_sorted (hu : X.A.units + 64 < cLine) : SemCl X Wx (.builtin "sorted") (cL sortF) := ⟨_, cr_sortD hu, semC_l fun G H xs ds d Q e rs hf k => by
  unfold sortF at hf
  split at hf
  · split at hf
    · rename_i ho
      cases hf
      cases rs with
      | cons r t =>
        cases t
        cases r with
        | lst h r => exact ⟨_, _, _, Rep X.K G, rfl, h, r.smono e, r.paired, ho, fun ys p z hp => k ys (.ofPaired z) p hp⟩
    · cases hf
  · cases hf⟩
end
end Py

namespace Py
open PySem PySem.Spec PyProof.Rows L2
/-! ### sorted(t), t a tuple -/
mutual
theorem reads_in {h : Heap} : ∀ {d : D} {v : Value} {as : List Addr}, Reads h v d as → d.canLay0 = true → ∀ b ∈ as, ∃ o, h.get? b = some o
  | .none, _, _, r, _, b, hb => by cases r; cases hb
  | .bool _, _, _, r, _, b, hb => by cases r; cases hb
  | .int _, _, _, r, _, b, hb => by cases r; cases hb
  | .str _, _, _, r, _, b, hb => by cases r; cases hb
  | .list ds, _, _, r, c, b, hb => by
    cases r with
    | list h1 h2 h3 h4 =>
      rcases List.mem_cons.mp hb with e | hb
      · rw [e]; exact ⟨_, h1⟩
      · exact readsAll_in h4 (by simpa [PyData.canLay0] using c) b hb
  | .tuple ds, _, _, r, c, b, hb => by
    cases r with
    | tuple h1 h2 h3 h4 => exact readsAll_in h4 (by simpa [PyData.canLay0] using c) b hb
  | .dict _, _, _, _, c, _, _ => by simp [PyData.canLay0] at c
theorem readsAll_in {h : Heap} : ∀ {ds : List D} {vs : List Value} {as : List Addr}, ReadsAll h vs ds as → PyData.canLayAll0 ds = true → ∀ b ∈ as, ∃ o, h.get? b = some o
  | [], _, _, r, _, b, hb => by cases r; cases hb
  | d :: ds, _, _, r, c, b, hb => by
    rw [PyData.canLayAll0, Bool.and_eq_true] at c
    cases r with
    | cons r1 r2 =>
      rcases List.mem_append.mp hb with hb | hb
      · exact reads_in r1 c.1 b hb
      · exact readsAll_in r2 c.2 b hb
end
theorem each_reads {h h' : Heap} {a : Addr} (k : ∀ b o, h.get? b = some o → h'.get? b = some o) (ha : ∀ b o, h.get? b = some o → b ≠ a) : ∀ {ds : List D} {vs : List Value} {as : List Addr}, ReadsAll h vs ds as → PyData.canLayAll0 ds = true →
    PySem.W.EachIs (fun v d => ∃ as, Reads h' v ((fun d => d) d) as ∧ a ∉ as) vs ds
  | [], _, _, r, _ => by cases r; exact .nil
  | d :: ds, _, _, r, c => by
    rw [PyData.canLayAll0, Bool.and_eq_true] at c
    cases r with
    | cons r1 r2 => exact .cons ⟨_, PyProof.Rows.Reads.keeps k r1, fun z => let ⟨o, e⟩ := reads_in r1 c.1 a z; ha a o e rfl⟩ (each_reads k ha r2 c.2)
section
variable {X : Cx} {Wx : WX}
def rSortDT (K : PySem.W.Frag) : List V → Hp → VK → Prop := fun vs H Q => ∃ (a : Addr) (xs : List V) (ds : List D) (Z : V → D → Prop), vs = [.ref a] ∧ SqT K H a xs ∧ RepAll K H xs ds ∧ Paired Z xs ds ∧ sortOk ds = true ∧
  ∀ ys p, Paired Z ys (sortD ds) → H p = none → Q (.ref p) (upd H p (.lst ys))
theorem cr_sortDT (hu : X.A.units + 64 < cLine) : CallR X (.builtin "sorted") (rSortDT X.K) := by
  intro pins s σ H vs us Q I r h
  obtain ⟨a, xs, ds, Z, rfl, hs, hr, hz, ho, q⟩ := h
  obtain ⟨its, rv, ⟨o, hg, hcl, n, hdt⟩, hlen⟩ := I.tuple hs
  rw [Vals.ref1 r]
  unfold sortOk at ho
  simp only [Bool.and_eq_true, Bool.or_eq_true, List.all_eq_true, decide_eq_true_eq] at ho
  obtain ⟨⟨⟨⟨h1, h2⟩, h3⟩, h4⟩, h5⟩ := ho
  obtain ⟨as, ra⟩ := Dp.readsAll I ds xs its (hr.dp h1) rv
  have il : its.length = ds.length := by rw [← rv.length, hr.length]
  have isz : its.length ≤ sizeLine := by rw [il, ← lim_eq]; exact h5
  refine PySem.Calls.call_function_entry kind_sorted plain_sorted entry_sorted (args_sorted1 _) ?_
  unfold Builtin.«sorted»
  refine wpAny_bind (m := checkCount "sorted" 1 1 _) (wpAny_pure ?_)
  refine wpAny_bind (wpAny_collect_seq a (.inr rfl) hg hcl hdt (fun h' k => ?_) (by simpa using isz))
  refine wpAny_bind (wpAny_newList ?_ (by simpa using isz))
  have fresh : ∀ b o, s.heap.get? b = some o → b < h'.objs.size := fun b o e => Heap.lt_size (k b o e)
  have new : (h'.push { cls := .type "list", data := .seq its.toArray.toList.toArray }).get? h'.objs.size = some (seqObj "list" its.toArray 0) := by
    rw [Heap.get?_push_size h' rfl]
  have kk : ∀ b o, s.heap.get? b = some o → (h'.push { cls := .type "list", data := .seq its.toArray.toList.toArray }).get? b = some o := fun b o e => Heap.get?_push_of_some _ (k b o e)
  refine wpAny_bind (wpAny_holding (PySem.W.list_sort_data (vs := its) (bs := ds) (enc := fun d => d) new (each_of hz rv) (each_reads kk (fun b o e => Nat.ne_of_lt (fresh b o e)) ra h1) ?_ ?_ (by rw [← lim_eq]; exact h5) (fun b hb => ?_) fun out ho he => ?_))
  · rw [List.map_id']
    exact fun d hd d' hd' => h2 d hd d' hd'
  · rw [List.map_id']
    rcases h3 with h3 | h3
    · exact .inr fun d hd => by
        have := h3 d hd
        refine ⟨fun e => ?_, fun ys e => ?_⟩ <;> (rw [e] at this; cases this)
    · exact .inl fun d hd => by
        have := h3 d hd
        unfold isTupHead at this
        split at this
        · exact ⟨_, _, rfl⟩
        · cases this
  · have := h4 b hb
    show X.A.units + 1 + 1 + b.depth < cLine
    omega
  · obtain ⟨ys, ry, zy⟩ := of_each he
    obtain ⟨ep, he'⟩ := sortedHeap_at (out := out.toArray) new
    have old : ∀ b o, h'.get? b = some o → (sortedHeap (h'.push { cls := .type "list", data := .seq its.toArray.toList.toArray }) h'.objs.size its out.toArray).get? b = some o := fun b o e => by
      have lt := Heap.lt_size e
      rw [sortedHeap_old (Nat.ne_of_lt lt) (by rw [Heap.size_push]; exact Nat.lt_succ_of_lt lt)]
      exact Heap.get?_push_of_some _ e
    have I1 : Inv X pins σ H { s with heap := h' } := I.kept (t' := s.toks) k
    exact wpAny_pure ⟨_, rfl, .ref _, upd H h'.objs.size (.lst ys), I1.laid (t' := s.toks) old (Nat.le_refl _) ⟨by rw [ry.length, ho, ← lim_eq]; exact h5, out, ep, ry, he'⟩, rfl, q _ _ zy (I1.hok.fresh (Nat.le_refl _))⟩
def sortF2 : List D → Option (List D)
  | [.list ds] => if sortOk ds then some (sortD ds) else none
  | [.tuple ds] => if sortOk ds then some (sortD ds) else none
  | _ => none
theorem sc_sorted2 (hu : X.A.units + 64 < cLine) : SemCl X Wx (.builtin "sorted") (cL sortF2) := ⟨_, (cr_sortD hu).or (cr_sortDT hu), semC_l fun G H xs ds d Q e rs hf k => by
  unfold sortF2 at hf
  split at hf
  · split at hf
    · rename_i ho
      cases hf
      cases rs with
      | cons r t =>
        cases t
        cases r with
        | lst h r => exact .inl ⟨_, _, _, Rep X.K G, rfl, h, r.smono e, r.paired, ho, fun ys p z hp => k ys (.ofPaired z) p hp⟩
    · cases hf
  · split at hf
    · rename_i ho
      cases hf
      cases rs with
      | cons r t =>
        cases t
        cases r with
        | tup _ h r => exact .inr ⟨_, _, _, Rep X.K G, rfl, h, r.smono e, r.paired, ho, fun ys p z hp => k ys (.ofPaired z) p hp⟩
    · cases hf
  · cases hf⟩
end
end Py

namespace Py
open PySem PySem.Spec PyProof.Rows L2
/-! ### isinstance of data -/
def tyName : D → String
  | .none => "NoneType"
  | .bool _ => "bool"
  | .int _ => "int"
  | .str _ => "str"
  | .list _ => "list"
  | .tuple _ => "tuple"
  | .dict _ => "dict"
def isInt : D → Bool
  | .int _ => true
  | .bool _ => true
  | _ => false
def isBool : D → Bool
  | .bool _ => true
  | _ => false
def isStr : D → Bool
  | .str _ => true
  | _ => false
def isList : D → Bool
  | .list _ => true
  | _ => false
def isTuple : D → Bool
  | .tuple _ => true
  | _ => false
def isDict : D → Bool
  | .dict _ => true
  | _ => false
/-- the type called n answers f -/
def TyAns (n : String) (f : D → Bool) : Prop := ∀ d, kitB (tyName d) n = some (f d)
theorem ta_int : TyAns "int" isInt := fun d => by cases d <;> simp only [tyName, isInt] <;> decide +kernel
theorem ta_bool : TyAns "bool" isBool := fun d => by cases d <;> simp only [tyName, isBool] <;> decide +kernel
theorem ta_str : TyAns "str" isStr := fun d => by cases d <;> simp only [tyName, isStr] <;> decide +kernel
theorem ta_list : TyAns "list" isList := fun d => by cases d <;> simp only [tyName, isList] <;> decide +kernel
theorem ta_tuple : TyAns "tuple" isTuple := fun d => by cases d <;> simp only [tyName, isTuple] <;> decide +kernel
theorem ta_dict : TyAns "dict" isDict := fun d => by cases d <;> simp only [tyName, isDict] <;> decide +kernel
section
variable {X : Cx} {Wx : WX}
theorem RepV.tyx {G H : Hp} {v : V} {d : D} (r : RepV X.K G H v d) : TyX X.K H v (.type (tyName d)) := by
  cases r with
  | non => exact .base .non
  | bl b => exact .base (.bl b)
  | int i => exact .base (.int i)
  | str x => exact .base (.str x)
  | lst h _ => exact .base (.lst h)
  | tup _ h _ => exact .base (.tup h)
  | dic h _ _ => exact .base (.dK h)
def isiS (f : D → Bool) (s : ES) : ES := fun ρ => bnd (s ρ) fun w ρ => match view ρ w with
  | some d => some (.ok (.dat (.bool (f d))) ρ)
  | none => none
/-- a built-in type's name -/
def PTy (X : Cx) (e : Expr) (n : String) : Prop := PE X e (tC (.ty n))
theorem pty {x : Str} {n : String} {p : Pos} (hg : Gl X x) (hm : X.mg x = none) (hv : bootBuiltins x = some (.type n)) (hn : x ≠ "__name__" := by decide) (hd : (x == ("__debug__" : Str)) = false := by decide) : PTy X (.Name x p) n := pe_bltn hg hm hv rfl hn hd
theorem okIsi {e c : Expr} {s : ES} {n : String} {f : D → Bool} {p pos : Pos} (hg : Gl X "isinstance") (hm : X.mg "isinstance" = none) (he : OkE X Wx e s) (hc : PTy X c n) (hf : TyAns n f)
    (h1 : starEach [e, c] X.env = (false, eval e X.env) :: starEach [c] X.env := by rfl) (h2 : starEach [c] X.env = (false, eval c X.env) :: starEach [] X.env := by rfl) (hpl : (backTo pos (starEach [c] X.env)).any (·.1) = false := by rfl) :
    OkE X Wx (.Call (.Name "isinstance" p) [e, c] [] pos) (isiS f s) := by
  obtain ⟨t, p, q⟩ := he
  refine ⟨_, pe_callB call_isi hg hm boot_isinstance (pa_cons p (pa_cons hc pa_nil h2) h1) (he := h1) (hpl := hpl), fun g σ H ρ Q S h => q g σ H ρ _ S (PostG.bind later_E h ?_)⟩
  intro w ρ1 g1 H1 x _ e1 S1 r1 h1
  cases ev : view ρ1 w with
  | none => rw [ev] at h1; exact h1.elim
  | some d =>
    rw [ev] at h1
    exact ⟨x, .ty n, _, _, f d, rfl, .ty n, (view_rep S1 r1.1 ev).tyx, kit_ty (hf d), PostE.dat S1 h1 (.bl _)⟩
/-- isinstance(e, (T, T2, ..)) -/
inductive PTys (X : Cx) : List Expr → List String → (D → Bool) → Prop
  | nil : PTys X [] [] fun _ => false
  | cons {e : Expr} {es : List Expr} {n : String} {ns : List String} {f f' : D → Bool} : PTy X e n → TyAns n f → (starEach (e :: es) X.env = (false, eval e X.env) :: starEach es X.env) → PTys X es ns f' → PTys X (e :: es) (n :: ns) fun d => f d || f' d
def tTys : List String → TA
  | [] => tNil
  | n :: ns => tCons (tC (.ty n)) (tTys ns)
theorem PTys.pa {es : List Expr} {ns : List String} {f : D → Bool} (h : PTys X es ns f) : PA X es (tTys ns) := by
  induction h with
  | nil => exact pa_nil
  | cons p _ hs _ ih => exact pa_cons p ih hs
theorem PTys.kit {es : List Expr} {ns : List String} {f : D → Bool} (h : PTys X es ns f) (d : D) : PySem.W.kitAny X.K (.type (tyName d)) (ns.map Value.type) = some (f d) := by
  induction h with
  | nil => rfl
  | cons _ ta _ _ ih => exact kitAny_cons (kit_ty (ta d)) (fun e => by simp only [e, Bool.false_or]; exact ih) fun e => by simp only [e, Bool.true_or]
theorem tys_run {σ : L2.St} {H : Hp} {Q : List V → Hp → Prop} : ∀ {ns : List String}, Q (ns.map V.ty) H → tTys ns σ H Q
  | [], h => h
  | n :: ns, h => tys_run (ns := ns) (Q := fun vs H' => Q (V.ty n :: vs) H') h
theorem clsTys : ∀ ns : List String, Paired ClsV (ns.map V.ty) (ns.map Value.type)
  | [] => .nil
  | n :: ns => .cons (.ty n) (clsTys ns)
theorem okIsiT {e : Expr} {cs : List Expr} {s : ES} {ns : List String} {f : D → Bool} {k : Nat} {p tp pos : Pos} (hg : Gl X "isinstance") (hm : X.mg "isinstance" = none) (he : OkE X Wx e s) (hc : PTys X cs ns f) (hz : ns.length ≤ 1000 := by decide)
    (h1 : starEach [e, .Tuple cs k tp] X.env = (false, eval e X.env) :: starEach [.Tuple cs k tp] X.env := by rfl) (h2 : starEach [.Tuple cs k tp] X.env = (false, eval (.Tuple cs k tp) X.env) :: starEach [] X.env := by rfl)
    (hpl : (backTo pos (starEach [.Tuple cs k tp] X.env)).any (·.1) = false := by rfl) :
    OkE X Wx (.Call (.Name "isinstance" p) [e, .Tuple cs k tp] [] pos) (isiS f s) := by
  obtain ⟨t, p, q⟩ := he
  refine ⟨_, pe_callB call_isiT hg hm boot_isinstance (pa_cons p (pa_cons (pe_tup hc.pa) pa_nil h2) h1) (he := h1) (hpl := hpl), fun g σ H ρ Q S h => q g σ H ρ _ S (PostG.bind later_E h ?_)⟩
  intro w ρ1 g1 H1 x _ e1 S1 r1 h1
  cases ev : view ρ1 w with
  | none => rw [ev] at h1; exact h1.elim
  | some d =>
    rw [ev] at h1
    refine tys_run ⟨by rw [List.length_map]; exact Nat.le_of_lt (small1000 hz), fun pp hp => ?_⟩
    obtain ⟨x2, S2⟩ := S1.lay (o := .tup (ns.map V.ty)) hp
    exact ⟨x, pp, _, _, _, f d, rfl, upd_same, clsTys ns, (view_rep S2 (r1.1.ext x2) ev).tyx, hc.kit d, PostE.dat S2 (PostG.shift later_E x2 h1) (.bl _)⟩
/-! ### methods of lists -/
def ownLst (w : W) (ρ : Env') : Bool := match w with
  | .own i => match cellAt ρ i with
    | some (.lst _) => true
    | _ => false
  | _ => false
theorem own_ty {g : Gh} {σ : L2.St} {H : Hp} {ρ : Env'} {x : V} {w : W} (S : SR X g σ H ρ) (r : RepW X g σ H x w) (h : ownLst w ρ = true) : tyV X.K "list" x H := by
  unfold ownLst at h
  split at h
  · rename_i i
    split at h
    · rename_i ds ec
      obtain ⟨a, ha, _, _, vs, h1, _⟩ := S.cell ec
      have r : σ[i]? = some (some x) := r
      rw [ha] at r
      cases r
      exact .inl ⟨rfl, vs, .of h1⟩
    · cases h
  · cases h
def appF : W → List W → Env' → Option (R W) := fun w ws ρ => match w, ws with
  | .own i, [.dat d] => (match cellAt ρ i with
    | some (.lst ds) => if ds.length < lim then some (.ok (.dat .none) (setCell ρ i (.lst (ds ++ [d])))) else none
    | _ => none)
  | _, _ => none
def extF : W → List W → Env' → Option (R W) := fun w ws ρ => match w, ws with
  | .own i, [z] => (match cellAt ρ i with
    | some (.lst ds) => (match view ρ z with
      | some (.list es) => if ds.length + es.length ≤ lim then some (.ok (.dat .none) (setCell ρ i (.lst (ds ++ es)))) else none
      | _ => none)
    | _ => none)
  | _, _ => none
def popF : W → List W → Env' → Option (R W) := fun w ws ρ => match w, ws with
  | .own i, [] => (match cellAt ρ i with
    | some (.lst ds) => (match ds[ds.length - 1]? with
      | some d => some (.ok (.dat d) (setCell ρ i (.lst ds.dropLast)))
      | none => none)
    | _ => none)
  | _, _ => none
theorem cell_at {g : Gh} {σ : L2.St} {H : Hp} {ρ : Env'} {x : V} {i : Nat} {ds : List D} (S : SR X g σ H ρ) (r : RepW X g σ H x (.own i)) (h : cellAt ρ i = some (.lst ds)) : ∃ a vs, x = .ref a ∧ σ[i]? = some (some (.ref a)) ∧ H a = some (.lst vs) ∧ RepAll X.K g.G vs ds := by
  obtain ⟨a, ha, _, _, vs, h1, h2⟩ := S.cell h
  have r : σ[i]? = some (some x) := r
  rw [ha] at r
  cases r
  exact ⟨a, vs, rfl, ha, h1, h2⟩
theorem sm_append : SemM X Wx "list" rAppend ownLst appF := by
  refine ⟨fun g σ H ρ x w S r h => own_ty S r h, fun g σ H0 H ρ x w vs ws Q S r rs p => ?_⟩
  unfold appF at p
  split at p
  · rename_i i d
    split at p
    · rename_i ds ec
      split at p
      · rename_i hz
        obtain ⟨a, xs, rfl, ha, h1, h2⟩ := cell_at S r ec
        cases rs with
        | cons rd _ t _ =>
          cases t
          obtain ⟨x2, S2⟩ := S.mut (o := .lst (xs ++ [_])) (c' := .lst (ds ++ [d])) ec ha ⟨_, upd_same, h2.append (.cons rd .nil)⟩
          exact ⟨_, _, _, rfl, rfl, h1, by rw [h2.length, ← lim_eq]; exact hz, p g _ .non x2 S2 ⟨.non, FreshIn.dat⟩⟩
      · exact p.elim
    · exact p.elim
  · exact p.elim
theorem sm_extend : SemM X Wx "list" rExtend ownLst extF := by
  refine ⟨fun g σ H ρ x w S r h => own_ty S r h, fun g σ H0 H ρ x w vs ws Q S r rs p => ?_⟩
  unfold extF at p
  split at p
  · rename_i i z
    split at p
    · rename_i ds ec
      split at p
      · rename_i es ev
        split at p
        · rename_i hz
          obtain ⟨a, xs, rfl, ha, h1, h2⟩ := cell_at S r ec
          cases rs with
          | cons rd _ t _ =>
            cases t
            cases view_rep S rd ev with
            | lst h3 h4 =>
              obtain ⟨x2, S2⟩ := S.mut (o := .lst (xs ++ _)) (c' := .lst (ds ++ es)) ec ha ⟨_, upd_same, h2.append h4⟩
              exact ⟨_, _, _, _, rfl, rfl, h1, h3, by rw [h2.length, h4.length, ← lim_eq]; exact hz, p g _ .non x2 S2 ⟨.non, FreshIn.dat⟩⟩
        · exact p.elim
      · exact p.elim
    · exact p.elim
  · exact p.elim
theorem sm_pop : SemM X Wx "list" rPop ownLst popF := by
  refine ⟨fun g σ H ρ x w S r h => own_ty S r h, fun g σ H0 H ρ x w vs ws Q S r rs p => ?_⟩
  unfold popF at p
  split at p
  · rename_i i
    split at p
    · rename_i ds ec
      split at p
      · rename_i d ed
        obtain ⟨a, xs, rfl, ha, h1, h2⟩ := cell_at S r ec
        cases rs
        obtain ⟨y, hy, ry⟩ := h2.get ed
        obtain ⟨x2, S2⟩ := S.mut (o := .lst xs.dropLast) (c' := .lst ds.dropLast) ec ha ⟨_, upd_same, h2.dropLast⟩
        exact ⟨_, _, _, rfl, rfl, h1, by rw [h2.length]; exact hy, p g _ y x2 S2 ⟨ry, FreshIn.dat⟩⟩
      · exact p.elim
    · exact p.elim
  · exact p.elim
/-! ### o[i] = .. -/
def ixG (so si : ES) : TgF := fun d ρ => toS (so ρ) fun w ρ => toS (si ρ) fun k ρ => match w, k with
  | .own i, .dat (.int j) => (match cellAt ρ i with
    | some (.lst ds) => (match ixN ds.length j with
      | some n => some (.nx (setCell ρ i (.lst (ds.set n d))))
      | none => none)
    | _ => none)
  | _, _ => none
theorem okG_ix {o i : Expr} {so si : ES} {pos : Pos} (ho : OkE X Wx o so) (hi : OkE X Wx i si)
    (ha : ∀ v, assign (.Subscript o i pos) X.env v = (do
      let ov ← holding [v] (eval o X.env)
      let iv ← holding [v, ov] (eval i X.env)
      standAt pos
      holding [v, ov, iv] (setItem ov iv v)
      release [v, ov, iv] []) := by intro _; rfl) : OkG X Wx (.Subscript o i pos) (ixG so si) := by
  obtain ⟨t, p, q⟩ := ho
  obtain ⟨t', p', q'⟩ := hi
  refine ⟨_, pg_sub p p' set_list ha, fun g σ H ρ v d E S r h => q g σ H ρ _ S (PostS.bind h ?_)⟩
  intro w ρ1 g1 H1 x _ e1 S1 r1 h1
  refine q' g1 σ H1 ρ1 _ S1 (PostS.bind (PostS.shift e1 h1) ?_)
  intro k ρ2 g2 H2 y _ e2 S2 r2 h2
  split at h2
  · rename_i j n _ _
    split at h2
    · rename_i ds ec
      split at h2
      · rename_i m em
        obtain ⟨a, xs, rfl, ha, h3, h4⟩ := cell_at S2 (r1.1.ext e2) ec
        cases (show Rep X.K g2.G y (.int n) from r2.1)
        obtain ⟨x3, S3⟩ := S2.mut (o := .lst (xs.set m v)) (c' := .lst (ds.set m d)) ec ha ⟨_, upd_same, h4.set ((r.mono e1.up).mono e2.up) m⟩
        exact ⟨a, xs, n, m, rfl, rfl, h3, by rw [h4.length]; exact em, (PostS.shift e2 h2) _ σ _ x3 S3⟩
      · exact h2.elim
    · exact h2.elim
  · exact h2.elim
/-! ### what a slot owns is frozen: it is not changed from there on -/
def frzE (i : Nat) (ρ : Env') : Option Env' := match ρ[i]? with
  | some (some (.own (.lst ds))) => some (ρ.set i (some (.val (.dat (.list ds)))))
  | some (some (.own (.ins c fs))) => some (ρ.set i (some (.val (.obj c fs))))
  | _ => none
theorem SR.frz {g : Gh} {σ : L2.St} {H : Hp} {ρ ρ' : Env'} {i : Nat} (S : SR X g σ H ρ) (h : frzE i ρ = some ρ') : ∃ g', Ext g H g' H ∧ SR X g' σ H ρ' := by
  have main : ∀ {c : Cell} {w : W}, ρ[i]? = some (some (.own c)) → (∀ {G : Hp} {a : Addr} {o : HO}, H a = some o → G a = none → CellR X G H a c → RepP X (upd G a o) (.ref a) w) → w.isFresh = false → (∀ {G : Hp} {a : Addr} {o : HO}, CellR X G H a c → H a = some o → noTag o = true) → ∃ g', Ext g H g' H ∧ SR X g' σ H (ρ.set i (some (.val w))) := by
    intro c w ec hw hf hnt
    obtain ⟨v, hv, a, rfl, ga, oa, q, ea⟩ := S.slot i _ ec
    obtain ⟨o, ho⟩ := q.some
    have hi : i < ρ.length := (List.getElem?_eq_some_iff.mp ec).1
    have up : Same g.G (upd g.G a o) := fun b y h => by rw [upd_ne (ne_of_none h ga)]; exact h
    refine ⟨⟨upd g.G a o, fun b => g.O b ∧ b ≠ a, g.B, g.E⟩, ⟨up, fun b y hb nb ob => ⟨hb, ?_, fun z => ob z.1⟩, fun b hb => hb, rfl, rfl⟩, ⟨S.sub.grow ga (hnt q ho) ho fun _ _ => rfl, by simp [S.len], fun j s hs => ?_, fun j k s t b hjk hs ht so to hb => ?_, fun b ob => S.ot b ob.1, S.ea⟩⟩
    · show upd g.G a o b = none
      rw [upd_ne (show b ≠ a from fun e => ob (by rw [e]; exact oa))]
      exact nb
    · by_cases e : j = i
      · subst e
        rw [List.getElem?_set_self hi] at hs
        cases hs
        exact ⟨_, hv, hw ho ga q⟩
      · rw [List.getElem?_set_ne (Ne.symm e)] at hs
        obtain ⟨u, h1, h2⟩ := S.slot j s hs
        refine ⟨u, h1, ?_⟩
        have ne : ∀ {b : Addr}, u = .ref b → s.owned ≠ none → b ≠ a := fun {b} e1 so e2 => by
          subst e1 e2
          exact S.dis j i s _ b e hs ec so (by simp [Slot.owned]) h1 hv
        cases s with
        | val w => exact RepP.mono up h2
        | own c0 =>
          obtain ⟨b, e1, nb, ob, qb, hb⟩ := h2
          have nba := ne e1 (by simp [Slot.owned])
          exact ⟨b, e1, by show upd g.G a o b = none; rw [upd_ne nba]; exact nb, ⟨ob, nba⟩, qb.mono up fun _ h => h, hb⟩
        | ref c0 =>
          obtain ⟨b, e1, nb, ob, qb, hb⟩ := h2
          have nba := ne e1 (by simp [Slot.owned])
          exact ⟨b, e1, by show upd g.G a o b = none; rw [upd_ne nba]; exact nb, ⟨ob, nba⟩, qb.mono up fun _ h => h, hb⟩
    · have old : ∀ (j : Nat) (s : Slot), (ρ.set i (some (Slot.val w)))[j]? = some (some s) → s.owned ≠ none → ρ[j]? = some (some s) := fun j s hs so => by
        by_cases e : j = i
        · subst e
          rw [List.getElem?_set_self hi] at hs
          cases hs
          exact absurd rfl so
        · rw [List.getElem?_set_ne (Ne.symm e)] at hs
          exact hs
      exact S.dis j k s t b hjk (old j s hs so) (old k t ht to) so to hb
  unfold frzE at h
  split at h
  · rename_i ds ec
    cases h
    refine main ec (fun {G a o} ho ga q => ?_) rfl fun {G a o} q ho => by
      obtain ⟨vs, h1, h2⟩ := q
      rw [ho] at h1
      cases h1
      rfl
    obtain ⟨vs, h1, h2⟩ := q
    rw [ho] at h1
    cases h1
    exact Rep.lst upd_same (h2.mono fun b y h => by rw [upd_ne (ne_of_none h ga)]; exact h)
  · rename_i c fs ec
    cases h
    refine main ec (fun {G a o} ho ga q => ?_) rfl fun {G a o} q ho => by
      obtain ⟨C, dx, vfs, h0, h1, h2⟩ := q
      rw [ho] at h1
      cases h1
      rfl
    obtain ⟨C, dx, vfs, h0, h1, h2⟩ := q
    rw [ho] at h1
    cases h1
    exact ⟨a, C, dx, vfs, rfl, h0, upd_same, Paired.mono h2 fun _ _ q => q.mono fun b y h => by rw [upd_ne (ne_of_none h ga)]; exact h⟩
  · cases h
def fzS (i : Nat) (s : SS) : SS := fun ρ => match frzE i ρ with
  | some ρ' => s ρ'
  | none => none
theorem tr_fz {t : TS} {s : SS} (i : Nat) (h : TrS X Wx t s) : TrS X Wx t (fzS i s) := by
  intro g σ H ρ E S p
  unfold fzS at p
  split at p
  · rename_i ρ' e
    obtain ⟨g', x, S'⟩ := S.frz e
    exact h g' σ H ρ' E S' (PostS.shift x p)
  · exact p.elim
theorem okFz {st : List Stmt} {s : SS} (i : Nat) (h : OkSs X Wx st s) : OkSs X Wx st (fzS i s) := let ⟨t, p, q⟩ := h; ⟨t, p, tr_fz i q⟩
end
end Py

namespace Py
open PySem PySem.Spec PyProof.Rows L2
/-! ### objects of own classes -/
section
variable {X : Cx} {Wx : WX} {k : Nat} {f C : Addr} {fd : FuncData} {ps : List Str} {F : FS}
/-- C(..), by values: what __init__ leaves in its self -/
def runMake (c : Str) (F : FS) (ws : List W) (ρ : Env') : Option (R W) := if (ownIx ws).Nodup then (match argsW ρ ws with
  | some zs => match F (.fresh (.ins c []) :: zs) with
    | some (.ret (.dat .none) (o :: cs)) => match backE ws cs ρ with
      | some ρ' => some (.ok (.fresh o) ρ')
      | none => none
    | some (.ex e d (o :: cs)) => match backE ws cs ρ with
      | some ρ' => some (.ex e d ρ')
      | none => none
    | _ => none
  | none => none) else none
def fMake (c : Str) (F : FS) (sa : AS) : ES := fun ρ => bnd (sa ρ) (runMake c F)
/-- what the rule wants -/
def tMk (X : Cx) (Wx : WX) (C : Addr) (F : FS) (σ : L2.St) (vs : List V) (H : Hp) (Q : VK) : Prop := ∀ x dx, H x = none → H dx = none → dx ≠ x → tM X Wx F σ (.ref x :: vs) (upd (upd H dx (.own x)) x (.ins C dx [])) (fun v H2 => v = .non ∧ Q (.ref x) H2)
theorem runMake_tMk {c : Str} {gS g : Gh} {HS H : Hp} {σ : L2.St} {ρ : Env'} {vs : List V} {ws : List W} {Q : VK} (hm : X.mg c = some (.ref C)) (e1 : Ext gS HS g H) (S : SR X g σ H ρ) (rw' : RepWs X g σ HS H vs ws) (h : PostE X Wx gS σ HS (runMake c F ws ρ) Q) :
    tMk X Wx C F σ vs H Q := by
  intro x dx hx hd hne
  obtain ⟨x1, S1⟩ := S.lay (o := .own x) hd
  have hx1 : upd H dx (.own x) x = none := by rw [upd_ne (Ne.symm hne)]; exact hx
  obtain ⟨x2, S2⟩ := S1.lay (o := .ins C dx []) hx1
  have gx : g.G x = none := S.sub.free hx
  have ox : ¬ g.O x := fun z => S.ot x z hx
  have hsx : HS x = none := by
    cases z : HS x with
    | none => rfl
    | some y => exact absurd hx (e1.al x (by rw [z]; exact fun q => by cases q))
  have all : RepWs X g σ HS (upd (upd H dx (.own x)) x (.ins C dx [])) (.ref x :: vs) (.fresh (.ins c []) :: ws) := by
    refine .cons ⟨x, rfl, gx, ox, C, dx, [], hm, upd_same, .nil⟩ (fun _ a e => by cases e; exact hsx) ?_ fun _ i u z hu hz hf e => ?_
    · have go : ∀ {vs : List V} {ws : List W}, RepWs X g σ HS H vs ws → RepWs X g σ HS (upd (upd H dx (.own x)) x (.ins C dx [])) vs ws := by
        intro vs ws t
        induction t with
        | nil => exact .nil
        | cons r f _ n ih => exact .cons (r.ext (x1.trans x2)) f ih n
      exact go rw'
    · obtain ⟨r, _⟩ := rw'.get hu hz
      cases z with
      | fresh c' =>
        obtain ⟨a, ea, _, _, q⟩ := r
        obtain ⟨y, hy⟩ := q.some
        rw [ea] at e
        cases e
        rw [hx] at hy
        cases hy
      | _ => cases hf
  unfold runMake at h
  by_cases nd : (ownIx ws).Nodup
  · rw [if_pos nd] at h
    cases ea : argsW ρ ws with
    | none => rw [ea] at h; exact h.elim
    | some zs =>
      rw [ea] at h
      dsimp only at h
      obtain ⟨AR, back⟩ := call_back (zs := .fresh (.ins c []) :: zs) ((e1.trans x1).trans x2) S2 all (by exact nd) (by simp only [argsW, argW, ea])
      cases ef : F (.fresh (.ins c []) :: zs) with
      | none => rw [ef] at h; exact h.elim
      | some r =>
        rw [ef] at h
        refine ⟨_, _, r, AR, ef, ?_⟩
        cases r with
        | ret w cs =>
          cases w with
          | dat d =>
            cases d with
            | none =>
              cases cs with
              | nil => exact h.elim
              | cons o cs =>
                dsimp only at h
                cases eb : backE ws cs ρ with
                | none => rw [eb] at h; exact h.elim
                | some ρ' =>
                  rw [eb] at h
                  dsimp only at h
                  intro g' H' v xx sub rr ho
                  obtain ⟨x3, S3⟩ := back g' H' (o :: cs) ρ' xx sub ho (by exact eb)
                  obtain ⟨⟨a, ea', ga, oa, qa⟩, _⟩ := ho
                  cases ea'
                  refine ⟨by cases (show Rep X.K g'.G v .none from rr); rfl, h _ H' (.ref x) x3 S3 ⟨⟨x, rfl, ga, ox, qa⟩, fun _ b eb => by cases eb; exact hsx⟩⟩
            | _ => exact h.elim
          | _ => exact h.elim
        | ex cc d cs =>
          cases cs with
          | nil => exact h.elim
          | cons o cs =>
            dsimp only at h
            cases eb : backE ws cs ρ with
            | none => rw [eb] at h; exact h.elim
            | some ρ' =>
              rw [eb] at h
              dsimp only at h
              intro g' H' cv da xx sub ho xr
              obtain ⟨x3, S3⟩ := back g' H' (o :: cs) ρ' xx sub ho (by exact eb)
              exact h _ H' cv da x3 S3 xr
  · rw [if_neg nd] at h; exact h.elim
theorem guards_make {A : Around} {C : Addr} {us : List Value} {kw : List (Str × Value)} (h : A.guards = some []) : (A.under (.builtin "type.__call__" ⟨.ref C :: us, kw⟩)).guards = some [] := by
  have e : (Code.builtin "type.__call__" ⟨.ref C :: us, kw⟩).isGuard = false := by
    show guardIds.contains "type.__call__" = false
    decide +kernel
  simp [Around.under, h, Code.guards, e, pushGuards]
/-- how self and what is given are bound -/
def BindsM (K : PySem.W.Frag) (fd : FuncData) (ps : List Str) : Prop := ∀ (s : Shared) (us : List Value), K.In s.heap → us.length = ps.length → BindsTo s fd ⟨us, []⟩ (ps.zip us)
theorem run_mk {pins : List (Addr × Obj)} {σ : L2.St} {H : Hp} {s : Shared} {Q : VK} {us : List Value} {vs : List V} (M : Mk X.K C f) (Fm : FnM X.prog X.w X.K X.mg X.base k f fd ps F) (cx : CtxOk X Wx) (hg : X.A.guards = some []) (hr : Room (k + 1) X.A) (hb : BindsM X.K fd ps)
    (I : Inv X pins σ H s) (r : Vals vs us) (h : tMk X Wx C F σ vs H Q) : wpAny (model X.prog X.w) X.A (call (.ref C) us) (EP X pins σ Q) X.xe s := by
  obtain ⟨g, zs, rr, AR, hF, post⟩ := h (s.heap.objs.size + 1) s.heap.objs.size (I.hok.fresh (Nat.le_succ _)) (I.hok.fresh (Nat.le_refl _)) (Nat.ne_of_lt (Nat.lt_succ_self _))
  have I2 := Inv.made (C := C) I
  have r2 : Vals (V.ref (s.heap.objs.size + 1) :: vs) (Value.ref (s.heap.objs.size + 1) :: us) := .cons rfl r
  have hl : (Value.ref (s.heap.objs.size + 1) :: us).length = ps.length := by
    rw [← r2.length, AR.len]
    exact Fm.len _ _ hF
  refine wpAny_call (make_map (f := f) I.kIn M.makes M.init (beq_iff_eq.mp M.fn) (codeAny_mono (Fm.run X rfl rfl _ X.stack _ _ ⟨Value.ref (s.heap.objs.size + 1) :: us, []⟩ (Value.ref (s.heap.objs.size + 1) :: us) _ zs g rr _ (WE Wx σ) (guards_make hg) (hr.make C us [])
    (I2.env0.make C us []) (hb _ _ I2.kIn hl) r2 AR hF post) fun r s' hq' => ?_))
  cases r with
  | error e => exact PassesAt.use cx I2 hq'
  | ok fl =>
    cases fl with
    | ret u =>
      obtain ⟨v, H', I3, rv, ev, q3⟩ := I2.after hq'
      subst ev
      exact ⟨rv, ⟨V.ref (s.heap.objs.size + 1), H', I3, rfl, q3⟩⟩
    | next => exact False.elim hq'
    | brk => exact False.elim hq'
    | cont => exact False.elim hq'
theorem okMake {x : Str} {p pos : Pos} {e : Expr} {es : List Expr} {sa : AS} (M : Mk X.K C f) (Fm : FnM X.prog X.w X.K X.mg X.base k f fd ps F) (cx : CtxOk X Wx) (hgd : X.A.guards = some []) (hr : Room (k + 1) X.A) (hg : Gl X x) (hm : X.mg x = some (.ref C)) (hb : BindsM X.K fd ps)
    (ha : OkA X Wx (e :: es) sa) (hdb : (x == ("__debug__" : Str)) = false := by decide) (he : starEach (e :: es) X.env = (false, eval e X.env) :: starEach es X.env := by rfl) (hpl : (backTo pos (starEach es X.env)).any (·.1) = false := by rfl) :
    OkE X Wx (.Call (.Name x p) (e :: es) [] pos) (fMake x F sa) := by
  obtain ⟨t, pa, q⟩ := ha
  refine ⟨fun σ H Q => t σ H fun vs H1 => tMk X Wx C F σ vs H1 Q, ⟨fun pins s σ H Q I h => ?_⟩, fun g σ H ρ Q S h => q g σ H ρ _ S (PostG.at (Ext.refl _ _) h ?_)⟩
  · refine wpAny_Call_Name_kw (ld_glob I hg hm ?_ hdb)
    refine PySem.W.callWith_K (h₀ := X.base) I.ok.mod.kin M.kp (thn (pa.run pos pins s σ H _ I h) fun us s1 ⟨vs, H1, I1, r, q⟩ => ⟨I1.kIn, ?_⟩) he hpl
    exact run_mk M Fm cx hgd hr hb I1 r q
  · intro ws ρ1 g1 H1 vs _ x1 S1 r1 h1
    exact runMake_tMk hm x1 S1 r1 h1
end
/-! ### fields -/
section
variable {X : Cx} {Wx : WX}
def fldF (c f : Str) (w : W) (ρ : Env') : Option (R W) := match w with
  | .obj c' fs => if c' = c then (match fs.lookup f with
    | some (some d) => some (.ok (.dat d) ρ)
    | _ => none) else none
  | .own i => (match cellAt ρ i with
    | some (.ins c' fs) => if c' = c then (match fs.lookup f with
      | some (some d) => some (.ok (.dat d) ρ)
      | _ => none) else none
    | _ => none)
  | _ => none
theorem fld_get {G : Hp} {ow : Addr} {f : Str} : ∀ {vfs : List (Str × V)} {fs : List (Str × Option D)} {d : D}, Paired (FldR X G ow) vfs fs → fs.lookup f = some (some d) → ∃ v, vfs.lookup f = some v ∧ Rep X.K G v d
  | _, _, _, .nil, h => by cases h
  | (a, v) :: vfs, (b, o) :: fs, d, .cons r t, h => by
    obtain ⟨e, r⟩ := r
    have e : a = b := e
    subst e
    by_cases z : (f == a) = true
    · simp only [List.lookup, z] at h ⊢
      cases h
      exact ⟨v, rfl, r.1 d rfl⟩
    · have z : (f == a) = false := by simpa using z
      simp only [List.lookup, z] at h ⊢
      exact fld_get t h
/-- what is asked of a class: its fields are plain -/
structure ClsF (X : Cx) (c f : Str) : Prop where
  cls : ∀ C, X.mg c = some (.ref C) → Cls X.K C
  no : ∀ C, X.mg c = some (.ref C) → NoAttr X.K C f
theorem okFld {c f : Str} {e : Expr} {s : ES} {pos : Pos} (hc : ClsF X c f) (he : OkE X Wx e s) (hb : attributeBase e f X.env (eval e X.env) = eval e X.env := by rfl) : OkE X Wx (.Attribute e f pos) (unS (fldF c f) s) := by
  obtain ⟨t, p, q⟩ := he
  refine ⟨_, pe_fld p hb, fun g σ H ρ Q S h => q g σ H ρ _ S (PostG.bind later_E h ?_)⟩
  intro w ρ1 g1 H1 x _ e1 S1 r1 h1
  unfold fldF at h1
  split at h1
  · rename_i c' fs
    split at h1
    · rename_i ec
      subst ec
      split at h1
      · rename_i d ed
        obtain ⟨a, C, dx, vfs, rfl, hm, hg, hf⟩ := r1.1
        obtain ⟨v, hv, rv⟩ := fld_get hf ed
        exact ⟨a, C, dx, vfs, v, rfl, S1.sub.1 _ _ hg rfl, hc.cls C hm, hc.no C hm, hv, PostE.dat S1 h1 rv⟩
      · exact h1.elim
    · exact h1.elim
  · rename_i i _
    split at h1
    · rename_i c' fs ec0
      split at h1
      · rename_i ec
        subst ec
        split at h1
        · rename_i d ed
          obtain ⟨a, ha, _, _, C, dx, vfs, hm, hg, hf⟩ := S1.cell ec0
          have r : σ[i]? = some (some x) := r1.1
          rw [ha] at r
          cases r
          obtain ⟨v, hv, rv⟩ := fld_get hf ed
          exact ⟨a, C, dx, vfs, v, rfl, hg, hc.cls C hm, hc.no C hm, hv, PostE.dat S1 h1 rv⟩
        · exact h1.elim
      · exact h1.elim
    · exact h1.elim
  · exact h1.elim
def putD (f : Str) (d : Option D) : List (Str × Option D) → List (Str × Option D)
  | [] => [(f, d)]
  | (g, x) :: r => if g = f then (g, d) :: r else (g, x) :: putD f d r
theorem fld_put {G : Hp} {ow : Addr} {f : Str} {v : V} {o : Option D} (hv : ∀ d, o = some d → Rep X.K G v d) (hn : o = none → ∃ k, v = .ref k ∧ G k = some (tagO ow)) : ∀ {vfs : List (Str × V)} {fs : List (Str × Option D)}, Paired (FldR X G ow) vfs fs → Paired (FldR X G ow) (putF f v vfs) (putD f o fs)
  | _, _, .nil => .cons ⟨rfl, hv, hn⟩ .nil
  | (a, u) :: vfs, (b, o') :: fs, .cons r t => by
    obtain ⟨e, r⟩ := r
    have e : a = b := e
    subst e
    unfold putF putD
    by_cases z : a = f
    · rw [if_pos z, if_pos z]
      exact .cons ⟨rfl, hv, hn⟩ t
    · rw [if_neg z, if_neg z]
      exact .cons ⟨rfl, r⟩ (fld_put hv hn t)
theorem paired_len {α β : Type} {R : α → β → Prop} : ∀ {l : List α} {m : List β}, Paired R l m → l.length = m.length
  | _, _, .nil => rfl
  | _, _, .cons _ t => by simp [paired_len t]
/-- o.f = e -/
def setFS (c f : Str) (so se : ES) : SS := fun ρ => toS (se ρ) fun z ρ => toS (so ρ) fun w ρ => match w, z with
  | .own i, .dat d => (match cellAt ρ i with
    | some (.ins c' fs) => if c' = c ∧ fs.length < 1000 then some (.nx (setCell ρ i (.ins c (putD f (some d) fs)))) else none
    | _ => none)
  | _, _ => none
theorem okSetF {c f : Str} {o e : Expr} {so se : ES} {pos pos' : Pos} (hc : ClsF X c f) (ho : OkE X Wx o so) (he : OkE X Wx e se) (hs : swapsWith e (some (.Attribute o f pos')) pos.line X.env = pure false := by rfl) : OkS X Wx (.Assign [.Attribute o f pos'] e pos) (setFS c f so se) := by
  obtain ⟨t, p, q⟩ := ho
  obtain ⟨t', p', q'⟩ := he
  refine ⟨_, ps_fld p p' hs, fun g σ H ρ E S h => q' g σ H ρ _ S (PostS.bind h ?_)⟩
  intro z ρ1 g1 H1 y _ e1 S1 r1 h1
  refine q g1 σ H1 ρ1 _ S1 (PostS.bind (PostS.shift e1 h1) ?_)
  intro w ρ2 g2 H2 x _ e2 S2 r2 h2
  split at h2
  · rename_i i d _ _
    split at h2
    · rename_i c' fs ec
      split at h2
      · rename_i hz
        obtain ⟨e, hz⟩ := hz
        subst e
        obtain ⟨a, ha, _, _, C, dx, vfs, hm, hg, hf⟩ := S2.cell ec
        have r : σ[i]? = some (some x) := r2.1
        rw [ha] at r
        cases r
        have rd : Rep X.K g2.G y d := Rep.mono e2.up r1.1
        obtain ⟨x3, S3⟩ := S2.mut (o := .ins C dx (putF f y vfs)) (c' := .ins c' (putD f (some d) fs)) ec ha ⟨C, dx, _, hm, upd_same, fld_put (fun d' e => by cases e; exact rd) (fun e => by cases e) hf⟩
        exact ⟨a, C, dx, vfs, rfl, hg, hc.cls C hm, hc.no C hm, by rw [paired_len hf]; exact hz, (PostS.shift e2 h2) _ σ _ x3 S3⟩
      · exact h2.elim
    · exact h2.elim
  · exact h2.elim
/-! ### isinstance against an own class -/
structure ClsI (X : Cx) (c : Str) : Prop where
  cls : ∀ C, X.mg c = some (.ref C) → Cls X.K C ∧ PySem.W.findIn X.K (.ref C) "__class__" = some (some (.builtin "object.__class__")) ∧ PySem.W.specialIn X.K (.builtin "object.__class__") "__get__" = some (some (.builtin "getset_descriptor.__get__")) ∧
    PySem.W.takesIn X.K (.builtin "object.__class__") = some true ∧ PySem.W.mroIn X.K C (.type "object") = some true
/-- isinstance(e, C), e an object of the class C itself -/
def isoS (c : Str) (s : ES) : ES := fun ρ => bnd (s ρ) fun w ρ => match w with
  | .obj c' _ => if c' = c then some (.ok (.dat (.bool true)) ρ) else none
  | _ => none
theorem kitOne_self {K : PySem.W.Frag} {C : Addr} : PySem.W.kitOne K (.ref C) (.ref C) = some true := by
  unfold PySem.W.kitOne
  rw [if_pos (by simp)]
theorem okIso {e : Expr} {c : Str} {C : Addr} {s : ES} {p cp pos : Pos} (hg : Gl X "isinstance") (hm : X.mg "isinstance" = none) (hgc : Gl X c) (hmc : X.mg c = some (.ref C)) (hc : ClsI X c) (he : OkE X Wx e s)
    (hd : (c == ("__debug__" : Str)) = false := by decide) (h1 : starEach [e, .Name c cp] X.env = (false, eval e X.env) :: starEach [.Name c cp] X.env := by rfl) (h2 : starEach [.Name c cp] X.env = (false, eval (.Name c cp) X.env) :: starEach [] X.env := by rfl)
    (hpl : (backTo pos (starEach [.Name c cp] X.env)).any (·.1) = false := by rfl) :
    OkE X Wx (.Call (.Name "isinstance" p) [e, .Name c cp] [] pos) (isoS c s) := by
  obtain ⟨t, p, q⟩ := he
  refine ⟨_, pe_callB call_isi hg hm boot_isinstance (pa_cons p (pa_cons (pe_glob (v := .ref C) hgc hmc rfl hd) pa_nil h2) h1) (he := h1) (hpl := hpl), fun g σ H ρ Q S h => q g σ H ρ _ S (PostG.bind later_E h ?_)⟩
  intro w ρ1 g1 H1 x _ e1 S1 r1 k0
  split at k0
  · rename_i c' fs _
    split at k0
    · rename_i ec
      subst ec
      obtain ⟨a, C', dx, vfs, rfl, hm', hg', hf⟩ := r1.1
      rw [hmc] at hm'
      cases hm'
      obtain ⟨k1, k2, k3, k4, k5⟩ := hc.cls C hmc
      exact ⟨.ref a, .ref C, .ref C, .ref C, true, rfl, .own C, .base (.ins (S1.sub.1 _ _ hg' rfl) k1 k2 k3 k4 k5), kitOne_self, PostE.dat S1 k0 (.bl true)⟩
    · exact k0.elim
  · exact k0.elim
end
end Py

namespace Py
open PySem PySem.Spec PyProof.Rows L2
/-! ### the rules in short, for the printed texts -/
theorem room65 {k : Nat} {A : Around} (r : Room k A) : A.units + 65 < cLine := by have := r.un; omega
theorem room66 {k : Nat} {A : Around} (r : Room k A) : A.units + 66 < cLine := by have := r.un; omega
section
variable {X : Cx} {Wx : WX}
theorem okv (i : Nat) {x : Str} {pos : Pos} (hN : X.N[i]? = some x := by rfl) (hv : Vis X.env.scope x := by first | exact Or.inl rfl | exact Or.inr (Or.inl rfl) | exact Or.inr (Or.inr rfl)) (hd : (x == ("__debug__" : Str)) = false := by decide)
    (hcd : (x == ("__classdict__" : Str)) = false := by decide) : OkE X Wx (.Name x pos) (vS i) := okV i hN hv hd hcd
theorem okset (i : Nat) (ow : Bool) {x : Str} {e : Expr} {s : ES} {pos pos' : Pos} (hN : X.N.Nodup) (he : OkE X Wx e s) (hi : X.N[i]? = some x := by rfl) (hx : Loc X.env.scope x := by first | exact Or.inl rfl | exact Or.inr rfl) (hs : swapsWith e (some (.Name x pos')) pos.line X.env = pure false := by rfl)
    (hf : X.fn x = true ∨ X.env.scope.names.lookup x = some .local := by first | exact .inl rfl | exact .inr rfl) : OkS X Wx (.Assign [.Name x pos'] e pos) (asgS ow i s) := okAsg hN hi hx he hs hf
theorem oksetLcT (i : Nat) {y : Str} {py : Pos} {elt tg iter : Expr} {ifs : List Expr} {scope : Scope} {pos spos : Pos} {s : IS} {f : TgF} {t : BS} {e : ES} (own : List (Str × Nat)) (hc : X.calm = true) (hN : X.N.Nodup) (hi : OkI X Wx tg iter s)
    (hg : ∀ (s : Shared) (H : Hp) (C : Addr) (cl : List (Str × Addr)) (fp : List Addr), OkGc (X.blk s H scope (compEnvC scope cl C X.env) fp) (own.map (·.2)) tg f)
    (ht : ∀ (s : Shared) (H : Hp) (C : Addr) (cl : List (Str × Addr)) (fp : List Addr), OkTs (X.blk s H scope (compEnvC scope cl C X.env) fp) ifs t)
    (he : ∀ (s : Shared) (H : Hp) (C : Addr) (cl : List (Str × Addr)) (fp : List Addr), OkE (X.blk s H scope (compEnvC scope cl C X.env) fp) WF elt e) (ok : blkC X.N X.env.scope scope own = true := by kernel_rfl) (hy : X.N[i]? = some y := by rfl) (hyl : X.env.scope.names.lookup y = some .local := by rfl)
    (hsw : swapsWith (.ListComp elt [⟨tg, iter, ifs, 0⟩] scope pos) (some (.Name y py)) spos.line X.env = pure true := by rfl) (hs : ∀ x, foldedSetIterable iter X.env x = pure x := by intro _; rfl) :
    OkS X Wx (.Assign [.Name y py] (.ListComp elt [⟨tg, iter, ifs, 0⟩] scope pos) spos) (asgS true i (lcS s f t e (own.map (·.2)))) := (okSetLc (ow := true) hc hN hy hyl hsw hi (blkOk_by ok) hg ht he hs).1
theorem oksetLcF (i : Nat) {y : Str} {py : Pos} {elt tg iter : Expr} {ifs : List Expr} {scope : Scope} {pos spos : Pos} {s : IS} {f : TgF} {t : BS} {e : ES} (own : List (Str × Nat)) (hc : X.calm = true) (hN : X.N.Nodup) (hi : OkI X Wx tg iter s)
    (hg : ∀ (s : Shared) (H : Hp) (C : Addr) (cl : List (Str × Addr)) (fp : List Addr), OkGc (X.blk s H scope (compEnvC scope cl C X.env) fp) (own.map (·.2)) tg f)
    (ht : ∀ (s : Shared) (H : Hp) (C : Addr) (cl : List (Str × Addr)) (fp : List Addr), OkTs (X.blk s H scope (compEnvC scope cl C X.env) fp) ifs t)
    (he : ∀ (s : Shared) (H : Hp) (C : Addr) (cl : List (Str × Addr)) (fp : List Addr), OkE (X.blk s H scope (compEnvC scope cl C X.env) fp) WF elt e) (ok : blkC X.N X.env.scope scope own = true := by kernel_rfl) (hy : X.N[i]? = some y := by rfl) (hyl : X.env.scope.names.lookup y = some .local := by rfl)
    (hsw : swapsWith (.ListComp elt [⟨tg, iter, ifs, 0⟩] scope pos) (some (.Name y py)) spos.line X.env = pure true := by rfl) (hs : ∀ x, foldedSetIterable iter X.env x = pure x := by intro _; rfl) :
    OkS X Wx (.Assign [.Name y py] (.ListComp elt [⟨tg, iter, ifs, 0⟩] scope pos) spos) (asgS false i (hrd (lcS s f t e (own.map (·.2))))) := (okSetLc (ow := false) hc hN hy hyl hsw hi (blkOk_by ok) hg ht he hs).2
theorem oklc {elt tg iter : Expr} {ifs : List Expr} {scope : Scope} {pos : Pos} {s : IS} {f : TgF} {t : BS} {e : ES} (own : List (Str × Nat)) (hc : X.calm = true) (hN : X.N.Nodup) (hi : OkI X Wx tg iter s)
    (hg : ∀ (s : Shared) (H : Hp) (C : Addr) (cl : List (Str × Addr)) (fp : List Addr), OkGc (X.blk s H scope (compEnvC scope cl C X.env) fp) (own.map (·.2)) tg f)
    (ht : ∀ (s : Shared) (H : Hp) (C : Addr) (cl : List (Str × Addr)) (fp : List Addr), OkTs (X.blk s H scope (compEnvC scope cl C X.env) fp) ifs t)
    (he : ∀ (s : Shared) (H : Hp) (C : Addr) (cl : List (Str × Addr)) (fp : List Addr), OkE (X.blk s H scope (compEnvC scope cl C X.env) fp) WF elt e) (ok : blkC X.N X.env.scope scope own = true := by kernel_rfl) (hs : ∀ x, foldedSetIterable iter X.env x = pure x := by intro _; rfl) :
    OkE X Wx (.ListComp elt [⟨tg, iter, ifs, 0⟩] scope pos) (lcS s f t e (own.map (·.2))) := okLc hc hN hi (blkOk_by ok) hg ht he hs
theorem okgn (i : Nat) {x : Str} {pos : Pos} (hN : X.N.Nodup) (hi : X.N[i]? = some x := by rfl) (hx : Loc X.env.scope x := by first | exact Or.inl rfl | exact Or.inr rfl) (hf : X.fn x = true ∨ X.env.scope.names.lookup x = some .local := by first | exact .inl rfl | exact .inr rfl) :
    OkG X Wx (.Name x pos) (nmG i) := okG_name hN hi hx hf
theorem okcn (i : Nat) {x : Str} {pos : Pos} (hN : X.N.Nodup) (hi : X.N[i]? = some x := by rfl) (hx : Loc X.env.scope x := by first | exact Or.inl rfl | exact Or.inr rfl) (hf : X.fn x = true ∨ X.env.scope.names.lookup x = some .local := by first | exact .inl rfl | exact .inr rfl) :
    OkGc X [i] (.Name x pos) (nmG i) := okGc_name hN hi hx hf
theorem pgn (i : Nat) {x : Str} {pos : Pos} (hN : X.N.Nodup) (hi : X.N[i]? = some x := by rfl) (hx : Loc X.env.scope x := by first | exact Or.inl rfl | exact Or.inr rfl) (hf : X.fn x = true ∨ X.env.scope.names.lookup x = some .local := by first | exact .inl rfl | exact .inr rfl) :
    PG X (.Name x pos) (gName i) := pg_name hN hi hx hf
theorem okgt (is : List Nat) {es : List Expr} {k : Nat} {pos : Pos} (hc : X.calm = true) (h : PGs X es (gNames is)) (hn : (assignEach es X.env).length = is.length := by rfl) (hst : (assignEach es X.env).findIdx? (·.1) = none := by rfl) : OkG X Wx (.Tuple es k pos) (tupN is) := okG_ofc (okGc_tup hc h hn hst) (tupN_nx is)
theorem okct (is : List Nat) {es : List Expr} {k : Nat} {pos : Pos} (hc : X.calm = true) (h : PGs X es (gNames is)) (hn : (assignEach es X.env).length = is.length := by rfl) (hst : (assignEach es X.env).findIdx? (·.1) = none := by rfl) : OkGc X is (.Tuple es k pos) (tupN is) := okGc_tup hc h hn hst
theorem okt {e : Expr} {s : ES} (h : OkE X Wx e s) (he : ∀ whole, isTrue e X.env whole = (do let v ← whole; standAt e.pos; holding [v] (truthy v)) := by intro _; rfl) : OkT X Wx e (tst s) := okT_val h he
theorem okappend {o e : Expr} {es : List Expr} {apos cpos : Pos} {so : ES} {sa : AS} (ho : OkE X Wx o so) (ha : OkA X Wx (e :: es) sa)
    (hbase : attributeBase o "append" X.env (eval o X.env) = eval o X.env := by rfl)
    (hfew : ((backTo cpos (starEach (e :: es) X.env)).all (fun x => !x.1) && (backToKw cpos (keywordEach [] X.env)).all (fun x => x.1.isSome)
      && decide ((e :: es).length + ([] : List Keyword).length + (if ([] : List Keyword).isEmpty then 0 else 1) < 30)) = true := by rfl)
    (hline : (apos.endLine == cpos.line) = true := by rfl) (hs : starEach (e :: es) X.env = (false, eval e X.env) :: starEach es X.env := by rfl) (hplain : (backTo cpos (starEach es X.env)).any (·.1) = false := by rfl) :
    OkE X Wx (.Call (.Attribute o "append" apos) (e :: es) [] cpos) (methS ownLst appF so sa) := okMeth PySem.F.plainAttrs_list PySem.F.slot_list_append PySem.F.type_list_append mt_append sm_append ho ha hbase hfew hline hs hplain
theorem okextend {o e : Expr} {es : List Expr} {apos cpos : Pos} {so : ES} {sa : AS} (ho : OkE X Wx o so) (ha : OkA X Wx (e :: es) sa)
    (hbase : attributeBase o "extend" X.env (eval o X.env) = eval o X.env := by rfl)
    (hfew : ((backTo cpos (starEach (e :: es) X.env)).all (fun x => !x.1) && (backToKw cpos (keywordEach [] X.env)).all (fun x => x.1.isSome)
      && decide ((e :: es).length + ([] : List Keyword).length + (if ([] : List Keyword).isEmpty then 0 else 1) < 30)) = true := by rfl)
    (hline : (apos.endLine == cpos.line) = true := by rfl) (hs : starEach (e :: es) X.env = (false, eval e X.env) :: starEach es X.env := by rfl) (hplain : (backTo cpos (starEach es X.env)).any (·.1) = false := by rfl) :
    OkE X Wx (.Call (.Attribute o "extend" apos) (e :: es) [] cpos) (methS ownLst extF so sa) := okMeth PySem.F.plainAttrs_list PySem.F.slot_list_extend PySem.F.type_list_extend mt_extend sm_extend ho ha hbase hfew hline hs hplain
theorem okpop {o : Expr} {apos cpos : Pos} {so : ES} (ho : OkE X Wx o so) (hbase : attributeBase o "pop" X.env (eval o X.env) = eval o X.env := by rfl) (hline : (apos.endLine == cpos.line) = true := by rfl) :
    OkE X Wx (.Call (.Attribute o "pop" apos) [] [] cpos) (methS ownLst popF so nilS) := okMeth0 PySem.F.plainAttrs_list PySem.F.slot_list_pop PySem.F.type_list_pop mt_pop sm_pop ho hbase hline
/-- {} -/
def dnS : ES := fun ρ => some (.ok (.fresh (.dct [])) ρ)
theorem okdn {pos : Pos} : OkE X Wx (.Dict [] [] pos) dnS := by
  refine ⟨_, pe_dnewK, fun g σ H ρ Q S h p hp => ?_⟩
  obtain ⟨x, S2⟩ := S.lay (o := .dK []) hp
  exact h g _ (.ref p) x S2 ⟨⟨p, rfl, S.sub.free hp, fun z => S.ot p z hp, [], upd_same, .nil⟩, fun _ a e => by cases e; exact hp⟩
end
section
variable {X : Cx} {Wx : WX}
/-! ### list(range(n)), list(range(a, b)) -/
theorem rngD_rep {K : PySem.W.Frag} {G : Hp} (a b : Int) : RepAll K G (rgV a b) (rngD a (b - a).toNat) := by
  unfold rgV rngD
  generalize (b - a).toNat = n
  induction (List.range n) with
  | nil => exact .nil
  | cons x l ih => exact .cons (.int _) ih
def rgC (a b : Int) : Bool := decide (-(2 ^ 62) ≤ a ∧ a < 2 ^ 62 ∧ -(2 ^ 62) ≤ b ∧ b < 2 ^ 62 ∧ (b - a).toNat ≤ 2 ^ 24)
def listR1 (w : W) (ρ : Env') : Option (R W) := match view ρ w with
  | some (.int b) => if rgC 0 b then some (.ok (.fresh (.lst (rngD 0 (b - 0).toNat))) ρ) else none
  | _ => none
theorem okListR1 {a : Expr} {sa : ES} {p1 p2 q1 q2 : Pos} (hc : X.calm = true) (hg : Gl X "list") (hm : X.mg "list" = none) (hg2 : Gl X "range") (hm2 : X.mg "range" = none) (ha : OkE X Wx a sa)
    (na : starEach [a] X.env = (false, eval a X.env) :: starEach [] X.env := by rfl) (nb : starEach [.Call (.Name "range" p2) [a] [] q1] X.env = (false, eval (.Call (.Name "range" p2) [a] [] q1) X.env) :: starEach [] X.env := by rfl) :
    OkE X Wx (.Call (.Name "list" p1) [.Call (.Name "range" p2) [a] [] q1] [] q2) (unS listR1 sa) := by
  obtain ⟨t, p, q⟩ := ha
  refine ⟨_, pe_listRg hc hg hm (prg_1 hg2 hm2 p na) nb, fun g σ H ρ Q S h => q g σ H ρ _ S (PostG.bind later_E h ?_)⟩
  intro w ρ1 g1 H1 x _ e1 S1 r1 h1
  unfold listR1 at h1
  split at h1
  · rename_i b eb
    split at h1
    · rename_i hz
      cases view_rep S1 r1.1 eb with
      | int _ => exact ⟨b, rfl, (of_decide_eq_true hz : -(2 ^ 62) ≤ (0 : Int) ∧ (0 : Int) < 2 ^ 62 ∧ -(2 ^ 62) ≤ b ∧ b < 2 ^ 62 ∧ (b - 0).toNat ≤ 2 ^ 24), fun pp hp => PostE.newList S1 h1 (rngD_rep 0 b) hp⟩
    · exact h1.elim
  · exact h1.elim
def listR2 (w z : W) (ρ : Env') : Option (R W) := match view ρ w with
  | some (.int a) => (match view ρ z with
    | some (.int b) => if rgC a b then some (.ok (.fresh (.lst (rngD a (b - a).toNat))) ρ) else none
    | _ => none)
  | _ => none
theorem okListR2 {a b : Expr} {sa sb : ES} {p1 p2 q1 q2 : Pos} (hc : X.calm = true) (hg : Gl X "list") (hm : X.mg "list" = none) (hg2 : Gl X "range") (hm2 : X.mg "range" = none) (ha : OkE X Wx a sa) (hb : OkE X Wx b sb)
    (na : starEach [a, b] X.env = (false, eval a X.env) :: starEach [b] X.env := by rfl) (nb2 : starEach [b] X.env = (false, eval b X.env) :: starEach [] X.env := by rfl) (hp : (backTo q1 (starEach [b] X.env)).any (·.1) = false := by rfl)
    (nb : starEach [.Call (.Name "range" p2) [a, b] [] q1] X.env = (false, eval (.Call (.Name "range" p2) [a, b] [] q1) X.env) :: starEach [] X.env := by rfl) :
    OkE X Wx (.Call (.Name "list" p1) [.Call (.Name "range" p2) [a, b] [] q1] [] q2) (opS listR2 sa sb) := by
  obtain ⟨t, p, q⟩ := ha
  obtain ⟨t', p', q'⟩ := hb
  refine ⟨_, pe_listRg hc hg hm (prg_2 hg2 hm2 p p' na nb2 hp) nb, fun g σ H ρ Q S h => q g σ H ρ _ S (PostG.bind later_E h ?_)⟩
  intro w ρ1 g1 H1 x _ e1 S1 r1 h1
  refine q' g1 σ H1 ρ1 _ S1 (PostG.bind later_E h1 ?_)
  intro z ρ2 g2 H2 y _ e2 S2 r2 h2
  unfold listR2 at h2
  split at h2
  · rename_i a ea
    split at h2
    · rename_i b eb
      split at h2
      · rename_i hz
        cases view_rep S2 (r1.1.ext e2) ea with
        | int _ =>
          cases view_rep S2 r2.1 eb with
          | int _ => exact ⟨a, b, rfl, rfl, (of_decide_eq_true hz : -(2 ^ 62) ≤ a ∧ a < 2 ^ 62 ∧ -(2 ^ 62) ≤ b ∧ b < 2 ^ 62 ∧ (b - a).toNat ≤ 2 ^ 24), fun pp hp => PostE.newList S2 h2 (rngD_rep a b) hp⟩
      · exact h2.elim
    · exact h2.elim
  · exact h2.elim
end
theorem boot_int' : bootBuiltins "int" = some (.type "int") := PyProof.Rows.boot_int
theorem boot_bool' : bootBuiltins "bool" = some (.type "bool") := by decide +kernel
theorem boot_str' : bootBuiltins "str" = some (.type "str") := by decide +kernel
theorem boot_list' : bootBuiltins "list" = some (.type "list") := PyProof.Rows.boot_list
theorem boot_tuple' : bootBuiltins "tuple" = some (.type "tuple") := PyProof.Rows.boot_tuple
theorem boot_dict' : bootBuiltins "dict" = some (.type "dict") := by decide +kernel
/-- turns of a while, more than ever come -/
def fuel : Nat := 1000000
/-- by keywords alone, or some -/
theorem kb_mk {K : PySem.W.Frag} {x qual : Str} {st : Stmt} {f : Addr} {fd : FuncData} {ps ks : List Str} {n : Nat} {is : List Nat} (F : Fun K x qual st f fd) (nd : is.Nodup)
    (h : ∀ (kV doc pm : Value) (an : Option Addr) (cdv ct : Value) (us ws zs : List Value), us.length = n → ws.length = ks.length → permU is (us ++ ws) = some zs → bindArgs (PySem.W.fnOf x qual (defArgs st) (defBody st) (defScope st) .none kV doc pm an cdv ct) ⟨us, ks.zip ws⟩ = pure (ps.zip zs)) : KB K fd ps ks n is := by
  refine ⟨nd, fun s us ws zs _ h1 h2 h3 => ?_⟩
  obtain ⟨oc, od, kV, doc, pm, an, cdv, ct, osl, rfl, lk, hcd⟩ := F.ex
  exact .of_eq (h kV doc pm an cdv ct us ws zs h1 h2 h3)
theorem bm_mk {K : PySem.W.Frag} {fd : FuncData} {ps : List Str} (h : Binds K fd ps []) : BindsM K fd ps := fun s us kin hl => by
  have := h s us kin (by simpa using hl)
  simpa using this
end Py

namespace Py
open PySem PySem.Spec PyProof.Rows L2
/-! ### reckoning: the semantic functions at states that are written out -/
@[simp] theorem bnd_some_ok {α β : Type} (a : α) (ρ : Env') (f : α → Env' → Option (R β)) : bnd (some (R.ok a ρ)) f = f a ρ := rfl
theorem v_val {ρ : Env'} {i : Nat} {w : W} (h : ρ[i]? = some (some (.val w))) : vS i ρ = some (.ok w ρ) := by unfold vS; rw [h]
theorem v_own {ρ : Env'} {i : Nat} {c : Cell} (h : ρ[i]? = some (some (.own c))) : vS i ρ = some (.ok (.own i) ρ) := by unfold vS; rw [h]
theorem v_ref {ρ : Env'} {i : Nat} {c : Cell} (h : ρ[i]? = some (some (.ref c))) : vS i ρ = some (.ok (.own i) ρ) := by unfold vS; rw [h]
theorem cell_own {ρ : Env'} {i : Nat} {c : Cell} (h : ρ[i]? = some (some (.own c))) : cellAt ρ i = some c := by unfold cellAt; rw [h]
theorem cell_ref {ρ : Env'} {i : Nat} {c : Cell} (h : ρ[i]? = some (some (.ref c))) : cellAt ρ i = some c := by unfold cellAt; rw [h]
theorem setc_own {ρ : Env'} {i : Nat} {c c' : Cell} (h : ρ[i]? = some (some (.own c))) : setCell ρ i c' = ρ.set i (some (.own c')) := by unfold setCell; rw [h]
theorem setc_ref {ρ : Env'} {i : Nat} {c c' : Cell} (h : ρ[i]? = some (some (.ref c))) : setCell ρ i c' = ρ.set i (some (.ref c')) := by unfold setCell; rw [h]
@[simp] theorem view_dat (ρ : Env') (d : D) : view ρ (.dat d) = some d := rfl
@[simp] theorem view_fresh_lst (ρ : Env') (ds : List D) : view ρ (.fresh (.lst ds)) = some (.list ds) := rfl
@[simp] theorem view_fresh_dct (ρ : Env') : view ρ (.fresh (.dct [])) = some (.dict []) := rfl
theorem view_own {ρ : Env'} {i : Nat} {c : Cell} (h : ρ[i]? = some (some (.own c))) : view ρ (.own i) = cellD c := by simp [view, cell_own h]
theorem view_ref {ρ : Env'} {i : Nat} {c : Cell} (h : ρ[i]? = some (some (.ref c))) : view ρ (.own i) = cellD c := by simp [view, cell_ref h]
@[simp] theorem viewS_scr (ρ : Env') (ns : List Int) : viewS ρ (.scr (.sc ns)) = some (.list (ns.map PyData.int)) := rfl
@[simp] theorem viewS_dat (ρ : Env') (d : D) : viewS ρ (.dat d) = some d := rfl
@[simp] theorem viewS_fresh (ρ : Env') (c : Cell) : viewS ρ (.fresh c) = view ρ (.fresh c) := rfl
@[simp] theorem viewS_own (ρ : Env') (i : Nat) : viewS ρ (.own i) = view ρ (.own i) := rfl
@[simp] theorem cS_at (d : D) (ρ : Env') : cS d ρ = some (.ok (.dat d) ρ) := rfl
@[simp] theorem nilS_at (ρ : Env') : nilS ρ = some (.ok [] ρ) := rfl
@[simp] theorem consS_at (s : ES) (r : AS) (ρ : Env') : consS s r ρ = bnd (s ρ) fun w ρ => bnd (r ρ) fun ws ρ => some (.ok (w :: ws) ρ) := rfl
@[simp] theorem opS_at (f : W → W → Env' → Option (R W)) (a b : ES) (ρ : Env') : opS f a b ρ = bnd (a ρ) fun x ρ1 => bnd (b ρ1) fun y ρ2 => f x y ρ2 := rfl
@[simp] theorem unS_at (f : W → Env' → Option (R W)) (a : ES) (ρ : Env') : unS f a ρ = bnd (a ρ) f := rfl
@[simp] theorem callS_at (F : List W → Env' → Option (R W)) (a : AS) (ρ : Env') : callS F a ρ = bnd (a ρ) F := rfl
@[simp] theorem isiS_at (f : D → Bool) (s : ES) (ρ : Env') : isiS f s ρ = bnd (s ρ) fun w ρ => match view ρ w with
  | some d => some (.ok (.dat (.bool (f d))) ρ)
  | none => none := rfl
@[simp] theorem tst_at (s : ES) (ρ : Env') : tst s ρ = bnd (s ρ) tstW := rfl
@[simp] theorem tstW_bool (b : Bool) (ρ : Env') : tstW (.dat (.bool b)) ρ = some (.ok b ρ) := rfl
@[simp] theorem notT_at (s : BS) (ρ : Env') : notT s ρ = bnd (s ρ) fun b ρ => some (.ok (!b) ρ) := rfl
@[simp] theorem andT_at (s u : BS) (ρ : Env') : andT s u ρ = bnd (s ρ) fun b ρ => if b then u ρ else some (.ok false ρ) := rfl
@[simp] theorem orT_at (s u : BS) (ρ : Env') : orT s u ρ = bnd (s ρ) fun b ρ => if b then some (.ok true ρ) else u ρ := rfl
@[simp] theorem notV_at (s : ES) (ρ : Env') : notV s ρ = bnd (s ρ) fun w ρ => match w with
  | .dat (.bool b) => some (.ok (.dat (.bool (!b))) ρ)
  | _ => none := rfl
/-! by what stands in the slot -/
def slotV (i : Nat) (ρ : Env') : Option (Option Slot) → Option (R W)
  | some (some (.val w)) => some (.ok w ρ)
  | some (some (.own _)) => some (.ok (.own i) ρ)
  | some (some (.ref _)) => some (.ok (.own i) ρ)
  | _ => none
@[simp] theorem vS_at (i : Nat) (ρ : Env') : vS i ρ = slotV i ρ ρ[i]? := by
  unfold vS slotV
  rcases ρ[i]? with _ | (_ | s)
  · rfl
  · rfl
  · cases s <;> rfl
@[simp] theorem slotV_val (i : Nat) (ρ : Env') (w : W) : slotV i ρ (some (some (.val w))) = some (.ok w ρ) := rfl
@[simp] theorem slotV_own (i : Nat) (ρ : Env') (c : Cell) : slotV i ρ (some (some (.own c))) = some (.ok (.own i) ρ) := rfl
@[simp] theorem slotV_ref (i : Nat) (ρ : Env') (c : Cell) : slotV i ρ (some (some (.ref c))) = some (.ok (.own i) ρ) := rfl
def cellOf : Option (Option Slot) → Option Cell
  | some (some (.own c)) => some c
  | some (some (.ref c)) => some c
  | _ => none
@[simp] theorem cellAt_at (ρ : Env') (i : Nat) : cellAt ρ i = cellOf ρ[i]? := by
  unfold cellAt cellOf
  rcases ρ[i]? with _ | (_ | s)
  · rfl
  · rfl
  · cases s <;> rfl
@[simp] theorem cellOf_own (c : Cell) : cellOf (some (some (.own c))) = some c := rfl
@[simp] theorem cellOf_ref (c : Cell) : cellOf (some (some (.ref c))) = some c := rfl
def setOf (ρ : Env') (i : Nat) (c : Cell) : Option (Option Slot) → Env'
  | some (some (.ref _)) => ρ.set i (some (.ref c))
  | _ => ρ.set i (some (.own c))
@[simp] theorem setCell_at (ρ : Env') (i : Nat) (c : Cell) : setCell ρ i c = setOf ρ i c ρ[i]? := by
  unfold setCell setOf
  rcases ρ[i]? with _ | (_ | s)
  · rfl
  · rfl
  · cases s <;> rfl
@[simp] theorem setOf_own (ρ : Env') (i : Nat) (c c' : Cell) : setOf ρ i c (some (some (.own c'))) = ρ.set i (some (.own c)) := rfl
@[simp] theorem setOf_ref (ρ : Env') (i : Nat) (c c' : Cell) : setOf ρ i c (some (some (.ref c'))) = ρ.set i (some (.ref c)) := rfl
def storeOf (ow : Bool) (i : Nat) (w : W) (ρ : Env') : Option (Option Slot) → Option Env'
  | none => none
  | some (some (.ref _)) => none
  | some _ => (slotFor ow w).map fun s => ρ.set i (some s)
@[simp] theorem storeW_at (ow : Bool) (i : Nat) (w : W) (ρ : Env') : storeW ow i w ρ = storeOf ow i w ρ ρ[i]? := by
  unfold storeW storeOf
  rcases ρ[i]? with _ | (_ | s)
  · rfl
  · dsimp only
    cases slotFor ow w <;> rfl
  · cases s <;> dsimp only <;> first
      | rfl
      | (cases slotFor ow w <;> rfl)
@[simp] theorem storeOf_free (ow : Bool) (i : Nat) (w : W) (ρ : Env') : storeOf ow i w ρ (some none) = (slotFor ow w).map fun s => ρ.set i (some s) := rfl
@[simp] theorem storeOf_val (ow : Bool) (i : Nat) (w w0 : W) (ρ : Env') : storeOf ow i w ρ (some (some (.val w0))) = (slotFor ow w).map fun s => ρ.set i (some s) := rfl
@[simp] theorem storeOf_own (ow : Bool) (i : Nat) (w : W) (c : Cell) (ρ : Env') : storeOf ow i w ρ (some (some (.own c))) = (slotFor ow w).map fun s => ρ.set i (some s) := rfl
@[simp] theorem view_ownC (ρ : Env') (i : Nat) : view ρ (.own i) = (cellAt ρ i).bind cellD := rfl
@[simp] theorem cellD_lst (ds : List D) : cellD (.lst ds) = some (.list ds) := rfl
@[simp] theorem cellD_dct : cellD (.dct []) = some (.dict []) := rfl
def retOf (i : Nat) (ρ : Env') : Option (Option Slot) → Option O
  | some (some (.own c)) => some (.ret (.fresh c) (ρ.set i none))
  | _ => none
@[simp] theorem retW_ownC (i : Nat) (ρ : Env') : retW (.own i) ρ = retOf i ρ ρ[i]? := by
  show (match ρ[i]? with
    | some (some (.own c)) => some (O.ret (.fresh c) (ρ.set i none))
    | _ => none) = _
  unfold retOf
  rcases ρ[i]? with _ | (_ | s)
  · rfl
  · rfl
  · cases s <;> rfl
@[simp] theorem retOf_own (i : Nat) (ρ : Env') (c : Cell) : retOf i ρ (some (some (.own c))) = some (.ret (.fresh c) (ρ.set i none)) := rfl
def andK (b : ES) : W → Env' → Option (R W) := fun w ρ => match w with
  | .dat (.bool true) => b ρ
  | .dat (.bool false) => some (.ok (.dat (.bool false)) ρ)
  | _ => none
def orK (b : ES) : W → Env' → Option (R W) := fun w ρ => match w with
  | .dat (.bool true) => some (.ok (.dat (.bool true)) ρ)
  | .dat (.bool false) => b ρ
  | _ => none
@[simp] theorem andV_at (a b : ES) (ρ : Env') : andV a b ρ = bnd (a ρ) (andK b) := rfl
@[simp] theorem orV_at (a b : ES) (ρ : Env') : orV a b ρ = bnd (a ρ) (orK b) := rfl
@[simp] theorem andK_b (b : ES) (x : Bool) (ρ : Env') : andK b (.dat (.bool x)) ρ = if x then b ρ else some (.ok (.dat (.bool false)) ρ) := by cases x <;> rfl
@[simp] theorem orK_b (b : ES) (x : Bool) (ρ : Env') : orK b (.dat (.bool x)) ρ = if x then some (.ok (.dat (.bool true)) ρ) else b ρ := by cases x <;> rfl
def chK (gop' : W → W → Env' → Option (R W)) (y : W) (sc : ES) : W → Env' → Option (R W) := fun w ρ => match w with
  | .dat (.bool true) => bnd (sc ρ) fun z ρ => gop' y z ρ
  | .dat (.bool false) => some (.ok (.dat (.bool false)) ρ)
  | _ => none
@[simp] theorem chS_at (gop gop' : W → W → Env' → Option (R W)) (sa sb sc : ES) (ρ : Env') : chS gop gop' sa sb sc ρ = bnd (sa ρ) fun x ρ => bnd (sb ρ) fun y ρ => bnd (gop x y ρ) (chK gop' y sc) := rfl
@[simp] theorem chK_b (gop' : W → W → Env' → Option (R W)) (y : W) (sc : ES) (b : Bool) (ρ : Env') : chK gop' y sc (.dat (.bool b)) ρ = if b then bnd (sc ρ) fun z ρ => gop' y z ρ else some (.ok (.dat (.bool false)) ρ) := by cases b <;> rfl
@[simp] theorem d2_at (f : D → D → Option D) (a b : W) (ρ : Env') : d2 f a b ρ = match view ρ a with
  | some x => match view ρ b with
    | some y => match f x y with
      | some d => some (.ok (.dat d) ρ)
      | none => none
    | none => none
  | none => none := rfl
@[simp] theorem d1_at (f : D → Option D) (a : W) (ρ : Env') : d1 f a ρ = match view ρ a with
  | some x => match f x with
    | some d => some (.ok (.dat d) ρ)
    | none => none
  | none => none := rfl
@[simp] theorem iF_int (c : Int → Int → Bool) (f : Int → Int → D) (i j : Int) : iF c f (.int i) (.int j) = if c i j then some (f i j) else none := rfl
@[simp] theorem iF1_int (f : Int → D) (i : Int) : iF1 f (.int i) = some (f i) := rfl
@[simp] theorem viewsS_nil (ρ : Env') : viewsS ρ [] = some [] := rfl
@[simp] theorem viewsS_cons (ρ : Env') (w : W) (ws : List W) : viewsS ρ (w :: ws) = match viewS ρ w with
  | some d => match viewsS ρ ws with
    | some ds => some (d :: ds)
    | none => none
  | none => none := rfl
@[simp] theorem cD_at (f : List D → Option D) (ws : List W) (ρ : Env') : cD f ws ρ = match viewsS ρ ws with
  | some ds => match f ds with
    | some d => some (.ok (.dat d) ρ)
    | none => none
  | none => none := rfl
@[simp] theorem cL_at (f : List D → Option (List D)) (ws : List W) (ρ : Env') : cL f ws ρ = match viewsS ρ ws with
  | some ds => match f ds with
    | some d => some (.ok (.fresh (.lst d)) ρ)
    | none => none
  | none => none := rfl
@[simp] theorem runF_at (m n : Nat) (s : SS) (ws : List W) : runF m n s ws = if ws.length = m then (match s (startE n ws) with
  | some (.nx ρ) => finF ws ρ (.ret (.dat .none))
  | some (.ret (.own _) _) => none
  | some (.ret w ρ) => finF ws ρ (.ret w)
  | some (.ex c d ρ) => finF ws ρ (.ex c d)
  | _ => none) else none := rfl
@[simp] theorem startE_at (n : Nat) (ws : List W) : startE n ws = ws.map argSlot ++ List.replicate (n - ws.length) none := rfl
@[simp] theorem argSlot_dat (d : D) : argSlot (.dat d) = some (.val (.dat d)) := rfl
@[simp] theorem argSlot_obj (c : Str) (fs : List (Str × Option D)) : argSlot (.obj c fs) = some (.val (.obj c fs)) := rfl
@[simp] theorem argSlot_scr (ns : Frz) : argSlot (.scr ns) = some (.val (.scr ns)) := rfl
@[simp] theorem argSlot_fresh (c : Cell) : argSlot (.fresh c) = some (.ref c) := rfl
@[simp] theorem finF_at (ws : List W) (ρ : Env') (k : List Cell → FR) : finF ws ρ k = match outsE ws 0 ρ with
  | some cs => some (k cs)
  | none => none := rfl
@[simp] theorem outsE_nil (i : Nat) (ρ : Env') : outsE [] i ρ = some [] := rfl
@[simp] theorem outsE_dat (d : D) (ws : List W) (i : Nat) (ρ : Env') : outsE (.dat d :: ws) i ρ = outsE ws (i + 1) ρ := rfl
@[simp] theorem outsE_obj (c : Str) (fs : List (Str × Option D)) (ws : List W) (i : Nat) (ρ : Env') : outsE (.obj c fs :: ws) i ρ = outsE ws (i + 1) ρ := rfl
@[simp] theorem outsE_scr (ns : Frz) (ws : List W) (i : Nat) (ρ : Env') : outsE (.scr ns :: ws) i ρ = outsE ws (i + 1) ρ := rfl
def outOf (cs : Option (List Cell)) : Option (Option Slot) → Option (List Cell)
  | some (some (.ref c)) => cs.map (c :: ·)
  | _ => none
@[simp] theorem outsE_fresh (c : Cell) (ws : List W) (i : Nat) (ρ : Env') : outsE (.fresh c :: ws) i ρ = outOf (outsE ws (i + 1) ρ) ρ[i]? := by
  show (match ρ[i]? with
    | some (some (.ref c)) => match outsE ws (i + 1) ρ with
      | some cs => some (c :: cs)
      | none => none
    | _ => none) = _
  unfold outOf
  rcases ρ[i]? with _ | (_ | s)
  · rfl
  · rfl
  · cases s <;> first
      | rfl
      | (cases outsE ws (i + 1) ρ <;> rfl)
@[simp] theorem outOf_ref (cs : Option (List Cell)) (c : Cell) : outOf cs (some (some (.ref c))) = cs.map (c :: ·) := rfl
@[simp] theorem isInt_none : isInt (.none) = false := rfl
@[simp] theorem isInt_bool (b : Bool) : isInt (.bool b) = true := rfl
@[simp] theorem isInt_int (i : Int) : isInt (.int i) = true := rfl
@[simp] theorem isInt_str (x : Str) : isInt (.str x) = false := rfl
@[simp] theorem isInt_list (ds : List D) : isInt (.list ds) = false := rfl
@[simp] theorem isInt_tuple (ds : List D) : isInt (.tuple ds) = false := rfl
@[simp] theorem isInt_dict (kvs : List (D × D)) : isInt (.dict kvs) = false := rfl
@[simp] theorem isBool_none : isBool (.none) = false := rfl
@[simp] theorem isBool_bool (b : Bool) : isBool (.bool b) = true := rfl
@[simp] theorem isBool_int (i : Int) : isBool (.int i) = false := rfl
@[simp] theorem isBool_str (x : Str) : isBool (.str x) = false := rfl
@[simp] theorem isBool_list (ds : List D) : isBool (.list ds) = false := rfl
@[simp] theorem isBool_tuple (ds : List D) : isBool (.tuple ds) = false := rfl
@[simp] theorem isBool_dict (kvs : List (D × D)) : isBool (.dict kvs) = false := rfl
@[simp] theorem isStr_none : isStr (.none) = false := rfl
@[simp] theorem isStr_bool (b : Bool) : isStr (.bool b) = false := rfl
@[simp] theorem isStr_int (i : Int) : isStr (.int i) = false := rfl
@[simp] theorem isStr_str (x : Str) : isStr (.str x) = true := rfl
@[simp] theorem isStr_list (ds : List D) : isStr (.list ds) = false := rfl
@[simp] theorem isStr_tuple (ds : List D) : isStr (.tuple ds) = false := rfl
@[simp] theorem isStr_dict (kvs : List (D × D)) : isStr (.dict kvs) = false := rfl
@[simp] theorem isList_none : isList (.none) = false := rfl
@[simp] theorem isList_bool (b : Bool) : isList (.bool b) = false := rfl
@[simp] theorem isList_int (i : Int) : isList (.int i) = false := rfl
@[simp] theorem isList_str (x : Str) : isList (.str x) = false := rfl
@[simp] theorem isList_list (ds : List D) : isList (.list ds) = true := rfl
@[simp] theorem isList_tuple (ds : List D) : isList (.tuple ds) = false := rfl
@[simp] theorem isList_dict (kvs : List (D × D)) : isList (.dict kvs) = false := rfl
@[simp] theorem isTuple_none : isTuple (.none) = false := rfl
@[simp] theorem isTuple_bool (b : Bool) : isTuple (.bool b) = false := rfl
@[simp] theorem isTuple_int (i : Int) : isTuple (.int i) = false := rfl
@[simp] theorem isTuple_str (x : Str) : isTuple (.str x) = false := rfl
@[simp] theorem isTuple_list (ds : List D) : isTuple (.list ds) = false := rfl
@[simp] theorem isTuple_tuple (ds : List D) : isTuple (.tuple ds) = true := rfl
@[simp] theorem isTuple_dict (kvs : List (D × D)) : isTuple (.dict kvs) = false := rfl
@[simp] theorem isDict_none : isDict (.none) = false := rfl
@[simp] theorem isDict_bool (b : Bool) : isDict (.bool b) = false := rfl
@[simp] theorem isDict_int (i : Int) : isDict (.int i) = false := rfl
@[simp] theorem isDict_str (x : Str) : isDict (.str x) = false := rfl
@[simp] theorem isDict_list (ds : List D) : isDict (.list ds) = false := rfl
@[simp] theorem isDict_tuple (ds : List D) : isDict (.tuple ds) = false := rfl
@[simp] theorem isDict_dict (kvs : List (D × D)) : isDict (.dict kvs) = true := rfl
theorem gSub_int {ρ : Env'} {a b : W} {i j : Int} (ha : view ρ a = some (.int i)) (hb : view ρ b = some (.int j)) : gSub a b ρ = some (.ok (.dat (.int (i - j))) ρ) := by simp [gSub, ha, hb]
@[simp] theorem gSub_ii (ρ : Env') (i j : Int) : gSub (.dat (.int i)) (.dat (.int j)) ρ = some (.ok (.dat (.int (i - j))) ρ) := by simp [gSub]
theorem gAnd_int {ρ : Env'} {a b : W} {i j : Int} (ha : view ρ a = some (.int i)) (hb : view ρ b = some (.int j)) : gAnd a b ρ = some (.ok (.dat (.int (Builtin.bitAnd i j))) ρ) := by simp [gAnd, ha, hb]
@[simp] theorem gAnd_ii (ρ : Env') (i j : Int) : gAnd (.dat (.int i)) (.dat (.int j)) ρ = some (.ok (.dat (.int (Builtin.bitAnd i j))) ρ) := by simp [gAnd]
theorem gOr_int {ρ : Env'} {a b : W} {i j : Int} (ha : view ρ a = some (.int i)) (hb : view ρ b = some (.int j)) : gOr a b ρ = some (.ok (.dat (.int (Builtin.bitOr i j))) ρ) := by simp [gOr, ha, hb]
@[simp] theorem gOr_ii (ρ : Env') (i j : Int) : gOr (.dat (.int i)) (.dat (.int j)) ρ = some (.ok (.dat (.int (Builtin.bitOr i j))) ρ) := by simp [gOr]
theorem gXor_int {ρ : Env'} {a b : W} {i j : Int} (ha : view ρ a = some (.int i)) (hb : view ρ b = some (.int j)) : gXor a b ρ = some (.ok (.dat (.int (Builtin.bitXor i j))) ρ) := by simp [gXor, ha, hb]
@[simp] theorem gXor_ii (ρ : Env') (i j : Int) : gXor (.dat (.int i)) (.dat (.int j)) ρ = some (.ok (.dat (.int (Builtin.bitXor i j))) ρ) := by simp [gXor]
theorem gLt_int {ρ : Env'} {a b : W} {i j : Int} (ha : view ρ a = some (.int i)) (hb : view ρ b = some (.int j)) : gLt a b ρ = some (.ok (.dat (.bool (decide (i < j)))) ρ) := by simp [gLt, ha, hb]
@[simp] theorem gLt_ii (ρ : Env') (i j : Int) : gLt (.dat (.int i)) (.dat (.int j)) ρ = some (.ok (.dat (.bool (decide (i < j)))) ρ) := by simp [gLt]
theorem gLe_int {ρ : Env'} {a b : W} {i j : Int} (ha : view ρ a = some (.int i)) (hb : view ρ b = some (.int j)) : gLe a b ρ = some (.ok (.dat (.bool (decide (i ≤ j)))) ρ) := by simp [gLe, ha, hb]
@[simp] theorem gLe_ii (ρ : Env') (i j : Int) : gLe (.dat (.int i)) (.dat (.int j)) ρ = some (.ok (.dat (.bool (decide (i ≤ j)))) ρ) := by simp [gLe]
theorem gGt_int {ρ : Env'} {a b : W} {i j : Int} (ha : view ρ a = some (.int i)) (hb : view ρ b = some (.int j)) : gGt a b ρ = some (.ok (.dat (.bool (decide (j < i)))) ρ) := by simp [gGt, ha, hb]
@[simp] theorem gGt_ii (ρ : Env') (i j : Int) : gGt (.dat (.int i)) (.dat (.int j)) ρ = some (.ok (.dat (.bool (decide (j < i)))) ρ) := by simp [gGt]
theorem gGe_int {ρ : Env'} {a b : W} {i j : Int} (ha : view ρ a = some (.int i)) (hb : view ρ b = some (.int j)) : gGe a b ρ = some (.ok (.dat (.bool (decide (j ≤ i)))) ρ) := by simp [gGe, ha, hb]
@[simp] theorem gGe_ii (ρ : Env') (i j : Int) : gGe (.dat (.int i)) (.dat (.int j)) ρ = some (.ok (.dat (.bool (decide (j ≤ i)))) ρ) := by simp [gGe]
@[simp] theorem gMod_ii (ρ : Env') (i j : Int) (h : j ≠ 0) : gMod (.dat (.int i)) (.dat (.int j)) ρ = some (.ok (.dat (.int (i.fmod j))) ρ) := by simp [gMod, h]
@[simp] theorem gDiv_ii (ρ : Env') (i j : Int) (h : 0 < j ∧ j.natAbs.log2 < 9000) : gDiv (.dat (.int i)) (.dat (.int j)) ρ = some (.ok (.dat (.int (i / j))) ρ) := by simp [gDiv, h.1, h.2]
@[simp] theorem gPow_ii (ρ : Env') (i j : Int) (h : powC i j = true) : gPow (.dat (.int i)) (.dat (.int j)) ρ = some (.ok (.dat (.int (i ^ j.toNat))) ρ) := by simp [gPow, h]
@[simp] theorem gShl_ii (ρ : Env') (i j : Int) (h : powC i j = true) : gShl (.dat (.int i)) (.dat (.int j)) ρ = some (.ok (.dat (.int (i * 2 ^ j.toNat))) ρ) := by simp [gShl, h]
@[simp] theorem gShr_ii (ρ : Env') (i j : Int) (h : 0 ≤ j) : gShr (.dat (.int i)) (.dat (.int j)) ρ = some (.ok (.dat (.int (i / 2 ^ j.toNat))) ρ) := by simp [gShr, h]
@[simp] theorem gAdd_ii (ρ : Env') (i j : Int) : gAdd (.dat (.int i)) (.dat (.int j)) ρ = some (.ok (.dat (.int (i + j))) ρ) := by simp [gAdd]
@[simp] theorem gMul_ii (ρ : Env') (i j : Int) (h : mulC i j = true) : gMul (.dat (.int i)) (.dat (.int j)) ρ = some (.ok (.dat (.int (i * j))) ρ) := by simp [gMul, h]
theorem gAdd_ll {ρ : Env'} {a b : W} {xs ys : List D} (ha : view ρ a = some (.list xs)) (hb : view ρ b = some (.list ys)) (h : xs.length + ys.length ≤ lim) : gAdd a b ρ = some (.ok (.fresh (.lst (xs ++ ys))) ρ) := by
  simp [gAdd, gCat, ha, hb, h, iF]
@[simp] theorem gNeg_i (ρ : Env') (i : Int) : gNeg (.dat (.int i)) ρ = some (.ok (.dat (.int (-i))) ρ) := by simp [gNeg]
@[simp] theorem gInv_i (ρ : Env') (i : Int) : gInv (.dat (.int i)) ρ = some (.ok (.dat (.int (Builtin.bitNot i))) ρ) := by simp [gInv]
theorem gEq_of {ρ : Env'} {a b : W} {x y : D} (ha : view ρ a = some x) (hb : view ρ b = some y) (hx : SeqAt.shaped x = true) (hy : SeqAt.shaped y = true) : gEq a b ρ = some (.ok (.dat (.bool (PyData.eqv x y))) ρ) := by simp [gEq, eqF, ha, hb, hx, hy]
theorem gNe_of {ρ : Env'} {a b : W} {x y : D} (ha : view ρ a = some x) (hb : view ρ b = some y) (hx : SeqAt.shaped x = true) (hy : SeqAt.shaped y = true) : gNe a b ρ = some (.ok (.dat (.bool (!PyData.eqv x y))) ρ) := by simp [gNe, eqF, ha, hb, hx, hy]
theorem gIn_of {ρ : Env'} {a b : W} {x : D} {ds : List D} (ha : view ρ a = some x) (hb : view ρ b = some (.list ds)) (hx : SeqAt.shaped x = true) (hy : SeqAt.shaped (.list ds) = true) : gIn a b ρ = some (.ok (.dat (.bool (ds.any fun z => PyData.eqv z x))) ρ) := by simp [gIn, inF, ha, hb, hx, hy]
theorem gNotIn_of {ρ : Env'} {a b : W} {x : D} {ds : List D} (ha : view ρ a = some x) (hb : view ρ b = some (.list ds)) (hx : SeqAt.shaped x = true) (hy : SeqAt.shaped (.list ds) = true) : gNotIn a b ρ = some (.ok (.dat (.bool (!(ds.any fun z => PyData.eqv z x)))) ρ) := by simp [gNotIn, inF, ha, hb, hx, hy]
@[simp] theorem gEq_str (ρ : Env') (x y : Str) : gEq (.dat (.str x)) (.dat (.str y)) ρ = some (.ok (.dat (.bool (x == y))) ρ) := by simp [gEq, eqF, bothStr, PyData.eqv]
@[simp] theorem gNe_str (ρ : Env') (x y : Str) : gNe (.dat (.str x)) (.dat (.str y)) ρ = some (.ok (.dat (.bool (!(x == y)))) ρ) := by simp [gNe, eqF, bothStr, PyData.eqv]
@[simp] theorem lenF_list (ds : List D) : lenF [.list ds] = some (.int (ds.length : Nat)) := rfl
@[simp] theorem lenF_tuple (ds : List D) : lenF [.tuple ds] = some (.int (ds.length : Nat)) := rfl
@[simp] theorem absF_int (i : Int) : absF [.int i] = some (.int (if i < 0 then -i else i)) := rfl
@[simp] theorem intF_int (i : Int) : intF [.int i] = some (.int i) := rfl
@[simp] theorem maxF_ii (i j : Int) : maxF [.int i, .int j] = some (.int (if j > i then j else i)) := rfl
@[simp] theorem minF_ii (i j : Int) : minF [.int i, .int j] = some (.int (if j < i then j else i)) := rfl
@[simp] theorem listF_list (ds : List D) : listF [.list ds] = some ds := rfl
@[simp] theorem listF_tuple (ds : List D) : listF [.tuple ds] = some ds := rfl
@[simp] theorem tupleF_list (ds : List D) : tupleF [.list ds] = some (.tuple ds) := rfl
@[simp] theorem tupleF_tuple (ds : List D) : tupleF [.tuple ds] = some (.tuple ds) := rfl
@[simp] theorem sumF_ints (ns : List Int) : sumF [.list (ns.map PyData.int)] = some (.int ns.sum) := by simp [sumF]
theorem boolsOf_fun {α : Type} (l : List α) (q : α → Bool) : boolsOf (l.map fun d => PyData.bool (q d)) = some (l.map q) := by
  rw [show (l.map fun d => PyData.bool (q d)) = (l.map q).map PyData.bool by simp [List.map_map, Function.comp_def], boolsOf_map]
@[simp] theorem allF_fun {α : Type} (l : List α) (q : α → Bool) : allF [.list (l.map fun d => PyData.bool (q d))] = some (.bool (l.all q)) := by
  simp [allF, boolsOf_fun]
@[simp] theorem anyF_fun {α : Type} (l : List α) (q : α → Bool) : anyF [.list (l.map fun d => PyData.bool (q d))] = some (.bool (l.any q)) := by
  simp [anyF, boolsOf_fun]
@[simp] theorem isF_none_none (f : Bool → Bool) : isF f .none .none = some (.bool (f true)) := rfl
@[simp] theorem isF_bool (f : Bool → Bool) (i j : Bool) : isF f (.bool i) (.bool j) = some (.bool (f (decide (i = j)))) := rfl
@[simp] theorem seqI_at (s : ES) (ρ : Env') : seqI s ρ = bnd (s ρ) fun w ρ => match w with
  | .dat (.list ds) => some (.ok ds ρ)
  | .dat (.tuple ds) => some (.ok ds ρ)
  | _ => none := rfl
@[simp] theorem rngI_at (F : List W → Env' → Option (R (List D))) (sa : AS) (ρ : Env') : rngI F sa ρ = bnd (sa ρ) F := rfl
theorem rng1_at {ρ : Env'} {j : Int} (h0 : 0 ≤ j) (h : j ≤ 1000000) : rng1F [.dat (.int j)] ρ = some (.ok (rngD 0 j.toNat) ρ) := by
  have : -big ≤ j ∧ j < big := by unfold big; omega
  simp [rng1F, this]

/-- and, or of booleans -/
theorem andV_b {a b : ES} {ρ ρ' : Env'} {x : Bool} (h : a ρ = some (.ok (.dat (.bool x)) ρ')) : andV a b ρ = if x then b ρ' else some (.ok (.dat (.bool false)) ρ') := by
  unfold andV; rw [h]; cases x <;> rfl
theorem orV_b {a b : ES} {ρ ρ' : Env'} {x : Bool} (h : a ρ = some (.ok (.dat (.bool x)) ρ')) : orV a b ρ = if x then some (.ok (.dat (.bool true)) ρ') else b ρ' := by
  unfold orV; rw [h]; cases x <;> rfl
@[simp] theorem ifE_at (t : BS) (a b : ES) (ρ : Env') : ifE t a b ρ = bnd (t ρ) fun c ρ => if c then a ρ else b ρ := rfl
@[simp] theorem hrd_at (s : ES) (ρ : Env') : hrd s ρ = bnd (s ρ) fun w ρ => match hardW w with
  | some w' => some (.ok w' ρ)
  | none => none := rfl
@[simp] theorem hardW_dat (d : D) : hardW (.dat d) = some (.dat d) := rfl
@[simp] theorem hardW_lst (ds : List D) : hardW (.fresh (.lst ds)) = some (.dat (.list ds)) := rfl
@[simp] theorem hardW_dct : hardW (.fresh (.dct [])) = some (.dat (.dict [])) := rfl
@[simp] theorem hardW_ins (c : Str) (fs : List (Str × Option D)) : hardW (.fresh (.ins c fs)) = some (.obj c fs) := rfl
@[simp] theorem hardW_obj (c : Str) (fs : List (Str × Option D)) : hardW (.obj c fs) = some (.obj c fs) := rfl
@[simp] theorem seqS_at (s u : SS) (ρ : Env') : seqS s u ρ = match s ρ with
  | some (.nx ρ) => u ρ
  | o => o := rfl
@[simp] theorem nxS_at (ρ : Env') : nxS ρ = some (.nx ρ) := rfl
@[simp] theorem exprS_at (s : ES) (ρ : Env') : exprS s ρ = toS (s ρ) fun _ ρ => some (.nx ρ) := rfl
@[simp] theorem retS_at (s : ES) (ρ : Env') : retS s ρ = toS (s ρ) retW := rfl
@[simp] theorem retW_dat (d : D) (ρ : Env') : retW (.dat d) ρ = some (.ret (.dat d) ρ) := rfl
@[simp] theorem retW_obj (c : Str) (fs : List (Str × Option D)) (ρ : Env') : retW (.obj c fs) ρ = some (.ret (.obj c fs) ρ) := rfl
@[simp] theorem retW_fresh (c : Cell) (ρ : Env') : retW (.fresh c) ρ = some (.ret (.fresh c) ρ) := rfl
theorem retW_own {ρ : Env'} {i : Nat} {c : Cell} (h : ρ[i]? = some (some (.own c))) : retW (.own i) ρ = some (.ret (.fresh c) (ρ.set i none)) := by simp [retW, h]
@[simp] theorem ifS_at (t : BS) (a b : SS) (ρ : Env') : ifS t a b ρ = toS (t ρ) fun c ρ => if c then a ρ else b ρ := rfl
@[simp] theorem toS_okk {α : Type} (a : α) (ρ : Env') (f : α → Env' → Option O) : toS (some (R.ok a ρ)) f = f a ρ := rfl
@[simp] theorem asgS_at (ow : Bool) (i : Nat) (s : ES) (ρ : Env') : asgS ow i s ρ = toS (s ρ) fun w ρ => match storeW ow i w ρ with
  | some ρ' => some (.nx ρ')
  | none => none := rfl
@[simp] theorem asgGS_at (f : TgF) (s : ES) (ρ : Env') : asgGS f s ρ = toS (s ρ) fun w ρ => match w with
  | .dat d => f d ρ
  | _ => none := rfl
@[simp] theorem parS_at (is : List (Nat × Bool)) (sa : AS) (ρ : Env') : parS is sa ρ = toS (sa ρ) fun ws ρ => match storeAll is ws ρ with
  | some ρ' => some (.nx ρ')
  | none => none := rfl
@[simp] theorem storeAll_nil (ρ : Env') : storeAll [] [] ρ = some ρ := rfl
@[simp] theorem storeAll_cons (i : Nat) (ow : Bool) (is : List (Nat × Bool)) (w : W) (ws : List W) (ρ : Env') : storeAll ((i, ow) :: is) (w :: ws) ρ = match storeW ow i w ρ with
  | some ρ' => storeAll is ws ρ'
  | none => none := rfl
theorem store_free {ρ : Env'} {ow : Bool} {i : Nat} {w : W} {s : Slot} (h : ρ[i]? = some none) (hs : slotFor ow w = some s) : storeW ow i w ρ = some (ρ.set i (some s)) := by unfold storeW; rw [h, hs]
theorem store_val {ρ : Env'} {ow : Bool} {i : Nat} {w w0 : W} {s : Slot} (h : ρ[i]? = some (some (.val w0))) (hs : slotFor ow w = some s) : storeW ow i w ρ = some (ρ.set i (some s)) := by unfold storeW; rw [h, hs]
theorem store_own {ρ : Env'} {ow : Bool} {i : Nat} {w : W} {c : Cell} {s : Slot} (h : ρ[i]? = some (some (.own c))) (hs : slotFor ow w = some s) : storeW ow i w ρ = some (ρ.set i (some s)) := by unfold storeW; rw [h, hs]
@[simp] theorem slotF_dat (d : D) : slotFor false (.dat d) = some (.val (.dat d)) := rfl
@[simp] theorem slotF_obj (c : Str) (fs : List (Str × Option D)) : slotFor false (.obj c fs) = some (.val (.obj c fs)) := rfl
@[simp] theorem slotT_fresh (c : Cell) : slotFor true (.fresh c) = some (.own c) := rfl
@[simp] theorem fCall_at (F : FS) (sa : AS) (ρ : Env') : fCall F sa ρ = bnd (sa ρ) (runCall F) := rfl
@[simp] theorem methS_at (ty : W → Env' → Bool) (F : W → List W → Env' → Option (R W)) (so : ES) (sa : AS) (ρ : Env') : methS ty F so sa ρ = bnd (so ρ) fun w ρ => if ty w ρ = true then bnd (sa ρ) fun ws ρ => F w ws ρ else none := rfl
@[simp] theorem datsW_nil : datsW [] = some [] := rfl
@[simp] theorem datsW_cons (d : D) (ws : List W) : datsW (.dat d :: ws) = match datsW ws with
  | some ds => some (d :: ds)
  | none => none := rfl
/-- a call with data alone -/
def isDat : W → Bool
  | .dat _ => true
  | .obj _ _ => true
  | .scr _ => true
  | _ => false
theorem dat_args : ∀ {ws : List W}, ws.all isDat = true → ownIx ws = [] ∧ (∀ ρ, argsW ρ ws = some ws) ∧ ∀ ρ, backE ws [] ρ = some ρ
  | [], _ => ⟨rfl, fun _ => rfl, fun _ => rfl⟩
  | w :: ws, h => by
    simp only [List.all_cons, Bool.and_eq_true] at h
    obtain ⟨h1, h2⟩ := h
    obtain ⟨i1, i2, i3⟩ := dat_args h2
    cases w with
    | dat d => exact ⟨i1, fun ρ => by simp only [argsW, argW, i2], i3⟩
    | obj c fs => exact ⟨i1, fun ρ => by simp only [argsW, argW, i2], i3⟩
    | scr ns => exact ⟨i1, fun ρ => by simp only [argsW, argW, i2], i3⟩
    | fresh c => cases h1
    | own i => cases h1
theorem run_dat {F : FS} {ws : List W} {ρ : Env'} {w : W} (hw : ws.all isDat = true) (h : F ws = some (.ret w [])) : runCall F ws ρ = some (.ok w ρ) := by
  obtain ⟨h1, h2, h3⟩ := dat_args hw
  unfold runCall
  simp only [h1, h2, h, h3, List.nodup_nil, if_true]
/-- the first argument by reference, the others data -/
theorem run_ref {F : FS} {i : Nat} {ws : List W} {ρ : Env'} {w : W} {c c' : Cell} (hw : ws.all isDat = true) (hc : cellAt ρ i = some c) (h : F (.fresh c :: ws) = some (.ret w [c'])) : runCall F (.own i :: ws) ρ = some (.ok w (setCell ρ i c')) := by
  obtain ⟨h1, h2, h3⟩ := dat_args hw
  have nd : (ownIx (.own i :: ws)).Nodup := by simp [ownIx, h1]
  unfold runCall
  simp only [nd, if_true, argsW, argW, hc, h2, h, backE, h3]
/-- the first argument new, by reference -/
theorem run_new {F : FS} {ws : List W} {ρ : Env'} {w : W} {c c' : Cell} (hw : ws.all isDat = true) (h : F (.fresh c :: ws) = some (.ret w [c'])) : runCall F (.fresh c :: ws) ρ = some (.ok w ρ) := by
  obtain ⟨h1, h2, h3⟩ := dat_args hw
  have nd : (ownIx (.fresh c :: ws)).Nodup := by simp [ownIx, h1]
  unfold runCall
  simp only [nd, if_true, argsW, argW, h2, h, backE, h3]
def callD (ρ : Env') : Option FR → Option (R W)
  | some (.ret w []) => some (.ok w ρ)
  | some (.ex c d []) => some (.ex c d ρ)
  | _ => none
def callR (i : Nat) (ρ : Env') : Option FR → Option (R W)
  | some (.ret w [c]) => some (.ok w (setCell ρ i c))
  | some (.ex e d [c]) => some (.ex e d (setCell ρ i c))
  | _ => none
def callN (ρ : Env') : Option FR → Option (R W)
  | some (.ret w [_]) => some (.ok w ρ)
  | some (.ex e d [_]) => some (.ex e d ρ)
  | _ => none
@[simp] theorem callD_ret (ρ : Env') (w : W) : callD ρ (some (.ret w [])) = some (.ok w ρ) := rfl
@[simp] theorem callR_ret (i : Nat) (ρ : Env') (w : W) (c : Cell) : callR i ρ (some (.ret w [c])) = some (.ok w (setCell ρ i c)) := rfl
@[simp] theorem callN_ret (ρ : Env') (w : W) (c : Cell) : callN ρ (some (.ret w [c])) = some (.ok w ρ) := rfl
@[simp] theorem callD_ex (ρ : Env') (e : Str) (d : Option D) : callD ρ (some (.ex e d [])) = some (.ex e d ρ) := rfl
@[simp] theorem isDat_dat (d : D) : isDat (.dat d) = true := rfl
@[simp] theorem isDat_obj (c : Str) (fs : List (Str × Option D)) : isDat (.obj c fs) = true := rfl
@[simp] theorem isDat_scr (ns : Frz) : isDat (.scr ns) = true := rfl
theorem back_dat : ∀ {ws : List W} {c : Cell} {cs : List Cell} {ρ : Env'}, ws.all isDat = true → backE ws (c :: cs) ρ = none
  | [], _, _, _, _ => rfl
  | w :: ws, c, cs, ρ, h => by
    simp only [List.all_cons, Bool.and_eq_true] at h
    cases w with
    | dat d => exact back_dat (ws := ws) h.2
    | obj c fs => exact back_dat (ws := ws) h.2
    | scr ns => exact back_dat (ws := ws) h.2
    | fresh c => cases h.1
    | own i => cases h.1
@[simp] theorem runD_at {F : FS} {ws : List W} {ρ : Env'} (hw : ws.all isDat = true) : runCall F ws ρ = callD ρ (F ws) := by
  obtain ⟨h1, h2, h3⟩ := dat_args hw
  unfold runCall callD
  simp only [h1, h2, List.nodup_nil, if_true]
  rcases F ws with _ | (⟨w, cs⟩ | ⟨c, d, cs⟩)
  · rfl
  · cases cs with
    | nil => simp only [h3]
    | cons c cs => simp only [back_dat hw]
  · cases cs with
    | nil => simp only [h3]
    | cons c cs => simp only [back_dat hw]
@[simp] theorem runR_at {F : FS} {i : Nat} {ws : List W} {ρ : Env'} (hw : ws.all isDat = true) : runCall F (.own i :: ws) ρ = match cellAt ρ i with
    | some c => callR i ρ (F (.fresh c :: ws))
    | none => none := by
  obtain ⟨h1, h2, h3⟩ := dat_args hw
  have nd : (ownIx (.own i :: ws)).Nodup := by simp [ownIx, h1]
  unfold runCall callR
  simp only [nd, if_true, argsW, argW]
  cases cellAt ρ i with
  | none => rfl
  | some c =>
    simp only [h2]
    rcases F (.fresh c :: ws) with _ | (⟨w, cs⟩ | ⟨c, d, cs⟩)
    · rfl
    · rcases cs with _ | ⟨c, _ | ⟨c', cs⟩⟩ <;> simp only [backE, h3, back_dat hw]
    · rcases cs with _ | ⟨c, _ | ⟨c', cs⟩⟩ <;> simp only [backE, h3, back_dat hw]
@[simp] theorem runN_at {F : FS} {c : Cell} {ws : List W} {ρ : Env'} (hw : ws.all isDat = true) : runCall F (.fresh c :: ws) ρ = callN ρ (F (.fresh c :: ws)) := by
  obtain ⟨h1, h2, h3⟩ := dat_args hw
  have nd : (ownIx (.fresh c :: ws)).Nodup := by simp [ownIx, h1]
  unfold runCall callN
  simp only [nd, if_true, argsW, argW, h2]
  rcases F (.fresh c :: ws) with _ | (⟨w, cs⟩ | ⟨c, d, cs⟩)
  · rfl
  · rcases cs with _ | ⟨c, _ | ⟨c', cs⟩⟩ <;> simp only [backE, h3, back_dat hw]
  · rcases cs with _ | ⟨c, _ | ⟨c', cs⟩⟩ <;> simp only [backE, h3, back_dat hw]
/-! ### comprehensions without side effects -/
theorem lc_pure {s : IS} {f : TgF} {t : BS} {e : ES} {vs : List Nat} {ρ ρ0 : Env'} {ds : List D} {p : D → Bool} {g : D → D} (hs : s ρ = some (.ok ds ρ0)) (hf : freeE ρ0 vs = true)
    (hd : ∀ d ∈ ds, ∃ ρ1, f d (wipeE ρ0 vs) = some (.nx ρ1) ∧ t ρ1 = some (.ok (p d) ρ1) ∧ (p d = true → e ρ1 = some (.ok (.dat (g d)) ρ1)) ∧ wipeE ρ1 vs = wipeE ρ0 vs) (hz : ds.length ≤ lim) :
    lcS s f t e vs ρ = some (.ok (.fresh (.lst ((ds.filter p).map g))) (keepE ρ0 (wipeE ρ0 vs) vs)) := by
  have main : ∀ (ds : List D) (n : Nat), n + ds.length ≤ lim → (∀ d ∈ ds, ∃ ρ1, f d (wipeE ρ0 vs) = some (.nx ρ1) ∧ t ρ1 = some (.ok (p d) ρ1) ∧ (p d = true → e ρ1 = some (.ok (.dat (g d)) ρ1)) ∧ wipeE ρ1 vs = wipeE ρ0 vs) →
      lcL f t e vs n ds (wipeE ρ0 vs) = some (.ok ((ds.filter p).map g) (wipeE ρ0 vs)) := by
    intro ds
    induction ds with
    | nil => intro n _ _; rfl
    | cons d ds ih =>
      intro n hn hd
      obtain ⟨ρ1, h1, h2, h3, h4⟩ := hd d (by simp)
      have hn' : n + 1 + ds.length ≤ lim := by simp only [List.length_cons] at hn; omega
      cases hp : p d with
      | false =>
        rw [hp] at h2
        have ih := ih n (by omega) fun x hx => hd x (by simp [hx])
        unfold lcL
        simp only [h1, h2, h4, ih, List.filter_cons, hp, Bool.false_eq_true, if_false]
      | true =>
        rw [hp] at h2
        have ih := ih (n + 1) hn' fun x hx => hd x (by simp [hx])
        unfold lcL
        have hlt : n < lim := by simp only [List.length_cons] at hn; omega
        simp only [h1, h2, h3 hp, h4, ih, List.filter_cons, hp, if_true, List.map_cons]
        simp [hlt]
  unfold lcS
  rw [hs]
  simp only [bnd_some_ok, hf, if_true]
  rw [main ds 0 (by omega) hd]
/-- what is kept of a state that was wiped only -/
theorem keep_wipe {ρ : Env'} {i : Nat} (h : i < ρ.length) : keepE ρ (wipeE ρ [i]) [i] = ρ := by
  simp [keepE, wipeE, h, List.getD]
end Py

namespace Py
open PySem PySem.Spec PyProof.Rows L2
/-! ### comprehensions and loops, by what they do -/
/-- a slot that a name may be written to -/
def Free (x : Option Slot) : Prop := x = none ∨ ∃ w, x = some (.val w)
theorem free_none : Free none := .inl rfl
theorem free_val (w : W) : Free (some (.val w)) := .inr ⟨w, rfl⟩
@[simp] theorem storeOf_of {x : Option Slot} (h : Free x) (ow : Bool) (i : Nat) (w : W) (ρ : Env') : storeOf ow i w ρ (some x) = (slotFor ow w).map fun s => ρ.set i (some s) := by
  rcases h with rfl | ⟨w0, rfl⟩ <;> rfl
theorem nmG_free {ρ : Env'} {i : Nat} {x : Option Slot} (d : D) (hx : ρ[i]? = some x) (h : Free x) : nmG i d ρ = some (.nx (ρ.set i (some (.val (.dat d))))) := by
  unfold nmG
  simp [hx, h]
@[simp] theorem nmG_at (i : Nat) (d : D) (ρ : Env') : nmG i d ρ = (storeOf false i (.dat d) ρ ρ[i]?).map O.nx := by
  unfold nmG
  rw [storeW_at]
  cases storeOf false i (.dat d) ρ ρ[i]? <;> rfl
@[simp] theorem ownLst_own (i : Nat) (ρ : Env') : ownLst (.own i) ρ = match cellOf ρ[i]? with
  | some (.lst _) => true
  | _ => false := by
  rw [← cellAt_at]
  rfl
theorem appF_own {i : Nat} {ρ : Env'} {ds : List D} (d : D) (h : cellAt ρ i = some (.lst ds)) (hz : ds.length < lim) : appF (.own i) [.dat d] ρ = some (.ok (.dat .none) (setCell ρ i (.lst (ds ++ [d])))) := by
  unfold appF
  simp only [h, hz, if_true]
theorem extF_own {i : Nat} {ρ : Env'} {ds es : List D} {z : W} (h : cellAt ρ i = some (.lst ds)) (hv : view ρ z = some (.list es)) (hz : ds.length + es.length ≤ lim) : extF (.own i) [z] ρ = some (.ok (.dat .none) (setCell ρ i (.lst (ds ++ es)))) := by
  unfold extF
  simp only [h, hv, hz, if_true]
theorem popF_own {i : Nat} {ρ : Env'} {ds : List D} {d : D} (h : cellAt ρ i = some (.lst ds)) (hd : ds[ds.length - 1]? = some d) : popF (.own i) [] ρ = some (.ok (.dat d) (setCell ρ i (.lst ds.dropLast))) := by
  unfold popF
  simp only [h, hd]
theorem wipe_one (ρ : Env') (i : Nat) : wipeE ρ [i] = ρ.set i none := rfl
theorem wipe_set (ρ : Env') (i : Nat) (x : Option Slot) : wipeE (ρ.set i x) [i] = ρ.set i none := by simp [wipeE]
/-- [e for x in .. if t] -/
theorem lc_name {s : IS} {t : BS} {e : ES} {i : Nat} {ρ ρ0 : Env'} {ds : List D} {x : Option Slot} (p : D → Bool) (g : D → D) (hs : s ρ = some (.ok ds ρ0)) (hx : ρ0[i]? = some x) (hf : Free x)
    (hd : ∀ d ∈ ds, t (ρ0.set i (some (.val (.dat d)))) = some (.ok (p d) (ρ0.set i (some (.val (.dat d))))) ∧ (p d = true → e (ρ0.set i (some (.val (.dat d)))) = some (.ok (.dat (g d)) (ρ0.set i (some (.val (.dat d)))))) ) (hz : ds.length ≤ lim) :
    lcS s (nmG i) t e [i] ρ = some (.ok (.fresh (.lst ((ds.filter p).map g))) ρ0) := by
  have hi : i < ρ0.length := (List.getElem?_eq_some_iff.mp hx).1
  have fr : freeE ρ0 [i] = true := by
    simp only [freeE, List.all_cons, List.all_nil, Bool.and_true, List.getD_eq_getElem?_getD, hx, Option.getD_some]
    rcases hf with rfl | ⟨w, rfl⟩ <;> rfl
  have := lc_pure (f := nmG i) (vs := [i]) (p := p) (g := g) hs fr (fun d hd' => by
    obtain ⟨h1, h2⟩ := hd d hd'
    refine ⟨ρ0.set i (some (.val (.dat d))), ?_, h1, h2, ?_⟩
    · rw [wipe_one, nmG_free (x := none) d (by simp [hi]) free_none]
      simp
    · rw [wipe_set, wipe_one]) hz
  rw [keep_wipe hi] at this
  exact this
theorem lc_map {s : IS} {e : ES} {i : Nat} {ρ ρ0 : Env'} {ds : List D} {x : Option Slot} (g : D → D) (hs : s ρ = some (.ok ds ρ0)) (hx : ρ0[i]? = some x) (hf : Free x)
    (hd : ∀ d ∈ ds, e (ρ0.set i (some (.val (.dat d)))) = some (.ok (.dat (g d)) (ρ0.set i (some (.val (.dat d)))))) (hz : ds.length ≤ lim) :
    lcS s (nmG i) yesS e [i] ρ = some (.ok (.fresh (.lst (ds.map g))) ρ0) := by
  have := lc_name (t := yesS) (fun _ => true) g hs hx hf (fun d h => ⟨rfl, fun _ => hd d h⟩) hz
  rw [this, List.filter_eq_self.mpr fun _ _ => rfl]
/-- with a state that changes: I holds wherever the name is out of use -/
theorem lc_inv {s : IS} {t : BS} {e : ES} {i : Nat} {ρ ρ0 : Env'} {ds : List D} {x : Option Slot} (I : Env' → Prop) (Pr : D → D → Prop) (hs : s ρ = some (.ok ds ρ0)) (hx : ρ0[i]? = some x) (hf : Free x) (h0 : I (ρ0.set i none)) (hl : ∀ ρ, I ρ → ρ.length = ρ0.length ∧ ρ[i]? = some none)
    (hd : ∀ d ∈ ds, ∀ ρ1, I ρ1 → ∃ b ρ2, t (ρ1.set i (some (.val (.dat d)))) = some (.ok b ρ2) ∧ (b = false → I (ρ2.set i none)) ∧ (b = true → ∃ d' ρ3, e ρ2 = some (.ok (.dat d') ρ3) ∧ Pr d d' ∧ I (ρ3.set i none))) (hz : ds.length ≤ lim) :
    ∃ r ρ', lcS s (nmG i) t e [i] ρ = some (.ok (.fresh (.lst r)) (ρ'.set i x)) ∧ I ρ' ∧ (∃ ps : List D, ps.Sublist ds ∧ Paired Pr ps r) := by
  have fr : freeE ρ0 [i] = true := by
    simp only [freeE, List.all_cons, List.all_nil, Bool.and_true, List.getD_eq_getElem?_getD, hx, Option.getD_some]
    rcases hf with rfl | ⟨w, rfl⟩ <;> rfl
  have main : ∀ (ds : List D) (n : Nat) (ρ1 : Env'), n + ds.length ≤ lim → I ρ1 → (∀ d ∈ ds, ∀ ρ1, I ρ1 → ∃ b ρ2, t (ρ1.set i (some (.val (.dat d)))) = some (.ok b ρ2) ∧ (b = false → I (ρ2.set i none)) ∧ (b = true → ∃ d' ρ3, e ρ2 = some (.ok (.dat d') ρ3) ∧ Pr d d' ∧ I (ρ3.set i none))) →
      ∃ r ρ', lcL (nmG i) t e [i] n ds ρ1 = some (.ok r ρ') ∧ I ρ' ∧ ∃ ps : List D, ps.Sublist ds ∧ Paired Pr ps r := by
    intro ds
    induction ds with
    | nil => intro n ρ1 _ h _; exact ⟨[], ρ1, rfl, h, [], .slnil, .nil⟩
    | cons d ds ih =>
      intro n ρ1 hn h hd
      obtain ⟨b, ρ2, h1, h2, h3⟩ := hd d (by simp) ρ1 h
      have en : nmG i d ρ1 = some (.nx (ρ1.set i (some (.val (.dat d))))) := nmG_free d (hl ρ1 h).2 free_none
      simp only [List.length_cons] at hn
      cases b with
      | false =>
        obtain ⟨r, ρ', e1, e2, ps, e3, e4⟩ := ih n (ρ2.set i none) (by omega) (h2 rfl) fun x hx => hd x (by simp [hx])
        refine ⟨r, ρ', ?_, e2, ps, e3.cons _, e4⟩
        unfold lcL
        simp only [en, h1, wipe_one, e1]
      | true =>
        obtain ⟨d', ρ3, k1, k2, k3⟩ := h3 rfl
        obtain ⟨r, ρ', e1, e2, ps, e3, e4⟩ := ih (n + 1) (ρ3.set i none) (by omega) k3 fun x hx => hd x (by simp [hx])
        refine ⟨d' :: r, ρ', ?_, e2, d :: ps, e3.cons_cons _, .cons k2 e4⟩
        unfold lcL
        have hlt : n < lim := by omega
        simp only [en, h1, k1, wipe_one, e1]
        simp [hlt]
  obtain ⟨r, ρ', e1, e2, e3⟩ := main ds 0 (ρ0.set i none) (by omega) h0 hd
  refine ⟨r, ρ', ?_, e2, e3⟩
  unfold lcS
  rw [hs]
  simp only [bnd_some_ok, fr, if_true, wipe_one, e1]
  simp [keepE, hx]
/-- a loop that goes to its end -/
theorem forL_inv {f : TgF} {b : SS} {ds : List D} (I : Nat → Env' → Prop) (hd : ∀ k d ρ1, ds[k]? = some d → I k ρ1 → ∃ ρ2, (seqS (f d) b ρ1 = some (.nx ρ2) ∨ seqS (f d) b ρ1 = some (.ct ρ2)) ∧ I (k + 1) ρ2) {ρ : Env'} (h : I 0 ρ) :
    ∃ ρ', forL f b ds ρ = some (.nx ρ') ∧ I ds.length ρ' := by
  have main : ∀ (n k : Nat) (ρ : Env'), k + n = ds.length → I k ρ → ∃ ρ', forL f b (ds.drop k) ρ = some (.nx ρ') ∧ I ds.length ρ' := by
    intro n
    induction n with
    | zero => intro k ρ e h; rw [List.drop_of_length_le (by omega)]; exact ⟨ρ, rfl, by rw [← e]; exact h⟩
    | succ n ih =>
      intro k ρ e h
      have hk : k < ds.length := by omega
      obtain ⟨ρ2, h1, h2⟩ := hd k ds[k] ρ (by simp [hk]) h
      obtain ⟨ρ', h3, h4⟩ := ih (k + 1) ρ2 (by omega) h2
      refine ⟨ρ', ?_, h4⟩
      rw [List.drop_eq_getElem_cons hk]
      unfold forL
      rcases h1 with h1 | h1 <;> simp only [h1, h3]
  exact main ds.length 0 ρ (by omega) h
/-- a loop that may hand back b at an item where it is wanted -/
theorem forL_find {f : TgF} {b : SS} {ds : List D} (p : D → Bool) (I : Env' → Prop) (r : W) (hd : ∀ d ∈ ds, ∀ ρ1, I ρ1 → ∃ ρ2, I ρ2 ∧ seqS (f d) b ρ1 = if p d then some (.ret r ρ2) else some (.nx ρ2)) {ρ : Env'} (h : I ρ) :
    ∃ ρ', I ρ' ∧ forL f b ds ρ = if ds.any p then some (.ret r ρ') else some (.nx ρ') := by
  induction ds generalizing ρ with
  | nil => exact ⟨ρ, h, rfl⟩
  | cons d ds ih =>
    obtain ⟨ρ2, h1, h2⟩ := hd d (by simp) ρ h
    unfold forL
    cases hp : p d with
    | true =>
      rw [hp] at h2
      rw [if_pos rfl] at h2
      exact ⟨ρ2, h1, by simp only [h2, List.any_cons, hp, Bool.true_or, if_true]⟩
    | false =>
      rw [hp] at h2
      obtain ⟨ρ', h3, h4⟩ := ih (fun x hx => hd x (by simp [hx])) h1
      rw [if_neg Bool.false_ne_true] at h2
      exact ⟨ρ', h3, by simp only [h2, List.any_cons, hp, Bool.false_or, h4]⟩
theorem forL_findI {f : TgF} {b : SS} {ds : List D} (p : D → Bool) (I : Nat → Env' → Prop) (J : Env' → Prop) (r : W) (hd : ∀ k d ρ1, ds[k]? = some d → I k ρ1 → (p d = true ∧ ∃ ρ2, seqS (f d) b ρ1 = some (.ret r ρ2) ∧ J ρ2) ∨ (p d = false ∧ ∃ ρ2, seqS (f d) b ρ1 = some (.nx ρ2) ∧ I (k + 1) ρ2)) {ρ : Env'} (h : I 0 ρ) :
    (ds.any p = true ∧ ∃ ρ', forL f b ds ρ = some (.ret r ρ') ∧ J ρ') ∨ (ds.any p = false ∧ ∃ ρ', forL f b ds ρ = some (.nx ρ') ∧ I ds.length ρ') := by
  have main : ∀ (n k : Nat) (ρ : Env'), k + n = ds.length → I k ρ → ((ds.drop k).any p = true ∧ ∃ ρ', forL f b (ds.drop k) ρ = some (.ret r ρ') ∧ J ρ') ∨ ((ds.drop k).any p = false ∧ ∃ ρ', forL f b (ds.drop k) ρ = some (.nx ρ') ∧ I ds.length ρ') := by
    intro n
    induction n with
    | zero => intro k ρ e h; rw [List.drop_of_length_le (by omega)]; exact .inr ⟨rfl, ρ, rfl, by rw [← e]; exact h⟩
    | succ n ih =>
      intro k ρ e h
      have hk : k < ds.length := by omega
      rw [List.drop_eq_getElem_cons hk]
      rcases hd k ds[k] ρ (by simp [hk]) h with ⟨h1, ρ2, h2, h3⟩ | ⟨h1, ρ2, h2, h3⟩
      · refine .inl ⟨by rw [List.any_cons, h1]; rfl, ρ2, ?_, h3⟩
        unfold forL
        simp only [h2]
      · rcases ih (k + 1) ρ2 (by omega) h3 with ⟨h4, ρ', h5, h6⟩ | ⟨h4, ρ', h5, h6⟩
        · refine .inl ⟨by rw [List.any_cons, h1, h4]; rfl, ρ', ?_, h6⟩
          unfold forL
          simp only [h2, h5]
        · refine .inr ⟨by rw [List.any_cons, h1, h4]; rfl, ρ', ?_, h6⟩
          unfold forL
          simp only [h2, h5]
  exact main ds.length 0 ρ (by omega) h
theorem whileL_meas {c : BS} {b : SS} (I : Nat → Env' → Prop) (Q : Env' → Prop) (h : ∀ k ρ, I k ρ → (∃ ρ1, c ρ = some (.ok false ρ1) ∧ Q ρ1) ∨ (∃ ρ1, c ρ = some (.ok true ρ1) ∧ ∃ ρ2 k', b ρ1 = some (.nx ρ2) ∧ k' < k ∧ I k' ρ2)) :
    ∀ (n k : Nat) (ρ : Env'), k < n → I k ρ → ∃ ρ', whileL c b n ρ = some (.nx ρ') ∧ Q ρ'
  | 0, _, _, hk, _ => absurd hk (Nat.not_lt_zero _)
  | n + 1, k, ρ, hk, hi => by
    rcases h k ρ hi with ⟨ρ1, h1, h2⟩ | ⟨ρ1, h1, ρ2, k', h2, h3, h4⟩
    · refine ⟨ρ1, ?_, h2⟩
      unfold whileL
      simp [h1]
    · obtain ⟨ρ', h5, h6⟩ := whileL_meas I Q h n k' ρ2 (by omega) h4
      refine ⟨ρ', ?_, h6⟩
      unfold whileL
      simp [h1, h2, h5]
@[simp] theorem forS_at (s : IS) (f : TgF) (b : SS) (ρ : Env') : forS s f b ρ = toS (s ρ) fun ds ρ => forL f b ds ρ := rfl
/-! ### lists of ints, rows of ints, as data -/
abbrev rowD (ns : List Int) : D := .list (ns.map PyData.int)
abbrev rowsD (rs : List (List Int)) : D := .list (rs.map rowD)
theorem eqvAll_ints : ∀ ns ms : List Int, PyData.eqvAll (ns.map PyData.int) (ms.map PyData.int) = decide (ns = ms)
  | [], [] => by simp [PyData.eqvAll]
  | [], _ :: _ => by simp [PyData.eqvAll]
  | _ :: _, [] => by simp [PyData.eqvAll]
  | n :: ns, m :: ms => by
    simp only [List.map_cons, PyData.eqvAll, PyData.eqv, eqvAll_ints ns ms]
    by_cases h : n = m <;> by_cases h2 : ns = ms <;> simp [h, h2]
@[simp] theorem eqv_rows (ns ms : List Int) : PyData.eqv (rowD ns) (rowD ms) = decide (ns = ms) := by simp [PyData.eqv, eqvAll_ints]
@[simp] theorem eqv_int (i j : Int) : PyData.eqv (.int i) (.int j) = decide (i = j) := by
  simp only [PyData.eqv]
  by_cases h : i = j <;> simp [h]
theorem lay_ints : ∀ ns : List Int, PyData.canLayAll0 (ns.map PyData.int) = true
  | [] => rfl
  | n :: ns => by simp [PyData.canLayAll0, PyData.canLay0, lay_ints ns]
theorem depth_ints : ∀ ns : List Int, PyData.depthAll (ns.map PyData.int) = 0
  | [] => by simp [PyData.depthAll]
  | n :: ns => by simp [PyData.depthAll, PyData.depth, depth_ints ns]
theorem lay_rows : ∀ rs : List (List Int), PyData.canLayAll0 (rs.map rowD) = true
  | [] => rfl
  | r :: rs => by simp [PyData.canLayAll0, PyData.canLay0, lay_ints, lay_rows rs]
theorem depth_rows : ∀ rs : List (List Int), PyData.depthAll (rs.map rowD) ≤ 1
  | [] => by simp [PyData.depthAll]
  | r :: rs => by
    have := depth_rows rs
    simp only [List.map_cons, PyData.depthAll, rowD, PyData.depth, depth_ints]
    omega
@[simp] theorem shaped_int (i : Int) : SeqAt.shaped (.int i) = true := by simp [SeqAt.shaped, PyData.canLay0, PyData.depth]
@[simp] theorem shaped_bool (i : Bool) : SeqAt.shaped (.bool i) = true := by simp [SeqAt.shaped, PyData.canLay0, PyData.depth]
@[simp] theorem shaped_none : SeqAt.shaped .none = true := by simp [SeqAt.shaped, PyData.canLay0, PyData.depth]
@[simp] theorem shaped_row (ns : List Int) : SeqAt.shaped (.list (ns.map PyData.int)) = true := by simp [SeqAt.shaped, PyData.canLay0, lay_ints, PyData.depth, depth_ints]
@[simp] theorem shaped_tup (ns : List Int) : SeqAt.shaped (.tuple (ns.map PyData.int)) = true := by simp [SeqAt.shaped, PyData.canLay0, lay_ints, PyData.depth, depth_ints]
@[simp] theorem shaped_nil : SeqAt.shaped (.list []) = true := shaped_row []
@[simp] theorem shaped_rows (rs : List (List Int)) : SeqAt.shaped (.list (rs.map rowD)) = true := by
  have := depth_rows rs
  simp [SeqAt.shaped, PyData.canLay0, lay_rows, PyData.depth]
  omega
theorem any_ints (ns : List Int) (i : Int) : ((ns.map PyData.int).any fun z => PyData.eqv z (.int i)) = decide (i ∈ ns) := by
  induction ns with
  | nil => simp
  | cons n ns ih =>
    simp only [List.map_cons, List.any_cons, ih, eqv_int, List.mem_cons]
    by_cases h : n = i <;> by_cases h2 : i ∈ ns <;> simp [h, h2] <;> exact fun e => h e.symm
theorem any_rows (rs : List (List Int)) (r : List Int) : ((rs.map rowD).any fun z => PyData.eqv z (rowD r)) = decide (r ∈ rs) := by
  induction rs with
  | nil => simp
  | cons n ns ih =>
    simp only [List.map_cons, List.any_cons, ih, eqv_rows, List.mem_cons]
    by_cases h : n = r <;> by_cases h2 : r ∈ ns <;> simp [h, h2] <;> exact fun e => h e.symm
theorem cutD_map {α β : Type} (f : α → β) (xs : List α) (lo hi : Option Int) : cutD (xs.map f) lo hi = (cutD xs lo hi).map f := by
  simp [cutD, List.map_take, List.map_drop]
theorem atI_map {α β : Type} (f : α → β) (xs : List α) (i : Int) : atI (xs.map f) i = (atI xs i).map f := by
  unfold atI
  rw [List.length_map]
  cases ixN xs.length i <;> simp
theorem slS_at (sa : ES) (lo hi : PS') (ρ : Env') : slS sa lo hi ρ = bnd (sa ρ) fun w ρ => bnd (lo ρ) fun l ρ => bnd (hi ρ) fun h ρ => gSl l h w ρ := rfl
@[simp] theorem noP_at (ρ : Env') : noP ρ = some (.ok none ρ) := rfl
@[simp] theorem someP_at (s : ES) (ρ : Env') : someP s ρ = bnd (s ρ) fun w ρ => match w with
  | .dat (.int i) => some (.ok (some i) ρ)
  | _ => none := rfl
theorem gSl_list {lo hi : Option Int} {w : W} {ρ : Env'} {ds : List D} (h : viewS ρ w = some (.list ds)) : gSl lo hi w ρ = some (.ok (.fresh (.lst (cutD ds lo hi))) ρ) := by simp [gSl, h]
theorem gIx_at (a b : W) (ρ : Env') : gIx a b ρ = match viewS ρ a with
  | some x => match view ρ b with
    | some y => match ixF x y with
      | some d => some (.ok (.dat d) ρ)
      | none => none
    | none => none
  | none => none := rfl
@[simp] theorem ixF_list (ds : List D) (i : Int) : ixF (.list ds) (.int i) = atI ds i := rfl
@[simp] theorem ixF_tuple (ds : List D) (i : Int) : ixF (.tuple ds) (.int i) = atI ds i := rfl
theorem eqv_nil (rs : List (List Int)) : PyData.eqv (.list (rs.map rowD)) (.list []) = decide (rs = []) := by
  cases rs <;> simp [PyData.eqv, PyData.eqvAll]
/-! sorting -/
theorem alike_int (i j : Int) : PySem.W.alike (.int i) (.int j) = true := by simp [PySem.W.alike]
theorem alike_row (a b : List Int) : PySem.W.alike (rowD a) (rowD b) = true := by simp [PySem.W.alike, PySem.W.alike_ints]
theorem sortOk_ints {ns : List Int} (h : ns.length ≤ lim) : sortOk (ns.map PyData.int) = true := by
  simp [sortOk, lay_ints, alike_int, isAtomHead, PyData.depth, h]
theorem sortOk_rows {rs : List (List Int)} (h : rs.length ≤ lim) : sortOk (rs.map rowD) = true := by
  simp [sortOk, lay_rows, alike_row, isAtomHead, PyData.depth, depth_ints, h]
def sortI (ns : List Int) : List Int := ns.mergeSort fun a b => decide (a ≤ b)
def sortR (rs : List (List Int)) : List (List Int) := rs.mergeSort fun a b => decide (a ≤ b)
theorem sortD_ints (ns : List Int) : sortD (ns.map PyData.int) = (sortI ns).map PyData.int := by
  unfold sortD sortI
  refine (List.map_mergeSort fun a _ b _ => ?_).symm
  exact (congrFun (congrFun (PySem.W.dataLe_int (fun n : Int => n)) a) b).symm
theorem sortD_rows (rs : List (List Int)) : sortD (rs.map rowD) = (sortR rs).map rowD := by
  unfold sortD sortR
  refine (List.map_mergeSort fun a _ b _ => ?_).symm
  exact (congrFun (congrFun (PySem.W.dataLe_rows (fun n : List Int => n)) a) b).symm
theorem mem_sortI {x : Int} {ns : List Int} : x ∈ sortI ns ↔ x ∈ ns := List.mem_mergeSort
theorem mem_sortR {x : List Int} {ns : List (List Int)} : x ∈ sortR ns ↔ x ∈ ns := List.mem_mergeSort
@[simp] theorem len_sortI (ns : List Int) : (sortI ns).length = ns.length := List.length_mergeSort ..
@[simp] theorem len_sortR (ns : List (List Int)) : (sortR ns).length = ns.length := List.length_mergeSort ..
theorem sortI_le (ns : List Int) : (sortI ns).Pairwise (· ≤ ·) := by
  have := List.pairwise_mergeSort (le := fun a b : Int => decide (a ≤ b)) (fun a b c h1 h2 => by simp only [decide_eq_true_eq] at *; omega) (fun a b => by simp only [Bool.or_eq_true, decide_eq_true_eq]; omega) ns
  exact this.imp fun h => of_decide_eq_true h
theorem sortF_int0 {ns : List Int} (h : ns.length ≤ lim) : sortF [rowD ns] = some ((sortI ns).map PyData.int) := by simp [sortF, sortOk_ints h, sortD_ints]
theorem sortF_row0 {rs : List (List Int)} (h : rs.length ≤ lim) : sortF [.list (rs.map rowD)] = some ((sortR rs).map rowD) := by simp [sortF, sortOk_rows h, sortD_rows]
theorem sortF_ints {ns : List Int} (h : ns.length ≤ lim) : sortF2 [rowD ns] = some ((sortI ns).map PyData.int) := by simp [sortF2, sortOk_ints h, sortD_ints]
theorem sortF_intsT {ns : List Int} (h : ns.length ≤ lim) : sortF2 [.tuple (ns.map PyData.int)] = some ((sortI ns).map PyData.int) := by simp [sortF2, sortOk_ints h, sortD_ints]
theorem sortF_rows {rs : List (List Int)} (h : rs.length ≤ lim) : sortF2 [.list (rs.map rowD)] = some ((sortR rs).map rowD) := by simp [sortF2, sortOk_rows h, sortD_rows]
/-- each once -/
theorem sortI_nodup {ns : List Int} (h : ns.Nodup) : sortI ns = sortU ns := by
  refine lt_unique ?_ (sortU_lt ns) fun x => by rw [mem_sortI, mem_sortU]
  have h1 := sortI_le ns
  have h2 : (sortI ns).Nodup := (List.mergeSort_perm ns _).nodup_iff.mpr h
  exact (h1.and h2).imp fun h => by omega
theorem sortU_len_eq {ns : List Int} : (sortU ns).length = ns.length ↔ ns.Nodup := by
  constructor
  · intro h
    by_cases hn : ns.Nodup
    · exact hn
    · exfalso
      -- drop one of the two
      have : ∃ a : Int, ∃ ms : List Int, ms.length + 1 = ns.length ∧ ∀ x, x ∈ ns ↔ x ∈ ms := by
        clear h
        induction ns with
        | nil => exact absurd List.nodup_nil hn
        | cons n ns ih =>
          by_cases hm : n ∈ ns
          · exact ⟨n, ns, by simp, fun x => by
              rw [List.mem_cons]
              constructor
              · rintro (e | e)
                · rw [e]; exact hm
                · exact e
              · exact .inr⟩
          · have hn' : ¬ ns.Nodup := fun z => hn (List.nodup_cons.mpr ⟨hm, z⟩)
            obtain ⟨a, ms, h1, h2⟩ := ih hn'
            exact ⟨a, n :: ms, by simp; omega, fun x => by simp [h2 x]⟩
      obtain ⟨_, ms, h1, h2⟩ := this
      have := nodup_le (b := ms) (sortU_nodup ns) fun x hx => (h2 x).mp (mem_sortU.mp hx)
      omega
  · intro h
    exact same_len (sortU_nodup ns) h fun x => mem_sortU
@[simp] theorem intsOf_toInts {ns : List Int} : intsIn (rowD ns) = some ns := by simp [intsIn]
theorem lenSetF_row {ns : List Int} {w : W} {ρ : Env'} (h : viewS ρ w = some (rowD ns)) (hz : ns.length ≤ 1000) : lenSetF [w] ρ = some (.ok (.dat (.int ((sortU ns).length : Nat))) ρ) := by
  simp only [lenSetF, viewsS_cons, viewsS_nil, h, intsOf_toInts, hz, if_true]
@[simp] theorem fzS_at (i : Nat) (s : SS) (ρ : Env') : fzS i s ρ = match frzE i ρ with
  | some ρ' => s ρ'
  | none => none := rfl
def frzOf (i : Nat) (ρ : Env') : Option (Option Slot) → Option Env'
  | some (some (.own (.lst ds))) => some (ρ.set i (some (.val (.dat (.list ds)))))
  | some (some (.own (.ins c fs))) => some (ρ.set i (some (.val (.obj c fs))))
  | _ => none
@[simp] theorem frzE_at (i : Nat) (ρ : Env') : frzE i ρ = frzOf i ρ ρ[i]? := by
  unfold frzE frzOf
  rcases ρ[i]? with _ | (_ | s)
  · rfl
  · rfl
  · cases s with
    | own c => cases c <;> rfl
    | _ => rfl
@[simp] theorem frzOf_lst (i : Nat) (ρ : Env') (ds : List D) : frzOf i ρ (some (some (.own (.lst ds)))) = some (ρ.set i (some (.val (.dat (.list ds))))) := rfl
end Py

namespace Py
open PySem PySem.Spec PyProof.Rows L2
/-! ### lists and tuples alike -/
def isSeq : D → Bool
  | .list _ => true
  | .tuple _ => true
  | _ => false
def seqOf : D → List D
  | .list ds => ds
  | .tuple ds => ds
  | _ => []
@[simp] theorem isSeq_list (ds : List D) : isSeq (.list ds) = true := rfl
@[simp] theorem isSeq_tuple (ds : List D) : isSeq (.tuple ds) = true := rfl
@[simp] theorem seqOf_list (ds : List D) : seqOf (.list ds) = ds := rfl
@[simp] theorem seqOf_tuple (ds : List D) : seqOf (.tuple ds) = ds := rfl
theorem seqI_seq {s : ES} {ρ ρ' : Env'} {v : D} (h : s ρ = some (.ok (.dat v) ρ')) (hq : isSeq v = true) : seqI s ρ = some (.ok (seqOf v) ρ') := by
  unfold seqI
  rw [h]
  cases v <;> first
    | rfl
    | cases hq
theorem lenF_seq {v : D} (hq : isSeq v = true) : lenF [v] = some (.int ((seqOf v).length : Nat)) := by
  cases v <;> first
    | rfl
    | cases hq
theorem intsIn_seq {v : D} {ns : List Int} (hq : isSeq v = true) (h : seqOf v = ns.map PyData.int) : intsIn v = some ns := by
  have e : intsOf (seqOf v) = some ns := by rw [h]; simp
  cases v <;> first
    | exact e
    | cases hq
theorem sortF_seq {v : D} {ns : List Int} (hq : isSeq v = true) (h : seqOf v = ns.map PyData.int) (hz : ns.length ≤ lim) : sortF2 [v] = some ((sortI ns).map PyData.int) := by
  cases v with
  | list ds => rw [show ds = ns.map PyData.int from h]; exact sortF_ints hz
  | tuple ds => rw [show ds = ns.map PyData.int from h]; exact sortF_intsT hz
  | _ => cases hq
@[simp] theorem setFS_at (c f : Str) (so se : ES) (ρ : Env') : setFS c f so se ρ = toS (se ρ) fun z ρ => toS (so ρ) fun w ρ => match w, z with
  | .own i, .dat d => (match cellAt ρ i with
    | some (.ins c' fs) => if c' = c ∧ fs.length < 1000 then some (.nx (setCell ρ i (.ins c (putD f (some d) fs)))) else none
    | _ => none)
  | _, _ => none := rfl
@[simp] theorem dnS_at (ρ : Env') : dnS ρ = some (.ok (.fresh (.dct [])) ρ) := rfl
@[simp] theorem fldF_obj (c f : Str) (fs : List (Str × Option D)) (ρ : Env') : fldF c f (.obj c fs) ρ = match fs.lookup f with
  | some (some d) => some (.ok (.dat d) ρ)
  | _ => none := by
  unfold fldF
  dsimp only
  rw [if_pos rfl]
  try (rcases List.lookup f fs with _ | (_ | d) <;> rfl)
@[simp] theorem isoS_at (c : Str) (s : ES) (ρ : Env') : isoS c s ρ = bnd (s ρ) fun w ρ => match w with
  | .obj c' _ => if c' = c then some (.ok (.dat (.bool true)) ρ) else none
  | _ => none := rfl
@[simp] theorem putD_nil (f : Str) (d : Option D) : putD f d [] = [(f, d)] := rfl
theorem putD_ne {f g : Str} (d x : Option D) (r : List (Str × Option D)) (h : ¬ g = f) : putD f d ((g, x) :: r) = (g, x) :: putD f d r := by simp [putD, h]
/-- C(..) with data alone -/
def makeK (c : Str) (ρ : Env') : Option FR → Option (R W)
  | some (.ret (.dat .none) [o]) => some (.ok (.fresh o) ρ)
  | some (.ex e d [_]) => some (.ex e d ρ)
  | _ => none
@[simp] theorem makeK_ret (c : Str) (ρ : Env') (o : Cell) : makeK c ρ (some (.ret (.dat .none) [o])) = some (.ok (.fresh o) ρ) := rfl
@[simp] theorem fMake_at (c : Str) (F : FS) (sa : AS) (ρ : Env') : fMake c F sa ρ = bnd (sa ρ) (runMake c F) := rfl
@[simp] theorem runMake_at {c : Str} {F : FS} {ws : List W} {ρ : Env'} (hw : ws.all isDat = true) : runMake c F ws ρ = makeK c ρ (F (.fresh (.ins c []) :: ws)) := by
  obtain ⟨h1, h2, h3⟩ := dat_args hw
  unfold runMake makeK
  simp only [h1, List.nodup_nil, if_true, h2]
  rcases F (.fresh (.ins c []) :: ws) with _ | (⟨w, cs⟩ | ⟨e, d, cs⟩)
  · rfl
  · cases w with
    | dat d =>
      cases d with
      | none => rcases cs with _ | ⟨o, _ | ⟨o', cs⟩⟩ <;> simp only [h3, back_dat hw]
      | _ => rfl
    | _ => rfl
  · rcases cs with _ | ⟨o, _ | ⟨o', cs⟩⟩ <;> simp only [h3, back_dat hw]
/-! ### bits of lists of spots -/
theorem bitOr_nat (a b : Nat) : Builtin.bitOr (a : Int) (b : Int) = ((a ||| b : Nat) : Int) := by
  have n : ∀ x : Nat, Builtin.bitNot (x : Int) < 0 := fun x => by unfold Builtin.bitNot; omega
  have nn : ∀ x : Nat, (Builtin.bitNot (Builtin.bitNot (x : Int))).toNat = x := fun x => by unfold Builtin.bitNot; omega
  unfold Builtin.bitOr Builtin.bitAnd
  have d : ∀ x : Nat, decide (0 ≤ Builtin.bitNot (x : Int)) = false := fun x => decide_eq_false (by have := n x; omega)
  rw [d a, d b]
  simp only [nn]
  unfold Builtin.bitNot
  omega
theorem bitAndNot_nat (a b : Nat) : Builtin.bitAnd (a : Int) (Builtin.bitNot (b : Int)) = ((a - (a &&& b) : Nat) : Int) := by
  have d : decide (0 ≤ Builtin.bitNot (b : Int)) = false := decide_eq_false (by unfold Builtin.bitNot; omega)
  have d2 : decide (0 ≤ (a : Int)) = true := decide_eq_true (by omega)
  have nn : (Builtin.bitNot (Builtin.bitNot (b : Int))).toNat = b := by unfold Builtin.bitNot; omega
  unfold Builtin.bitAnd
  rw [d, d2]
  simp only [nn, Int.toNat_natCast]
  have : a &&& b ≤ a := Nat.and_le_left
  omega
theorem and_half (a b : Nat) : (a &&& b) / 2 = a / 2 &&& b / 2 := by
  refine Nat.eq_of_testBit_eq fun i => ?_
  simp [Nat.testBit_div_two]
theorem and_par (a b : Nat) : (a &&& b) % 2 = if a % 2 = 1 ∧ b % 2 = 1 then 1 else 0 := by
  have h := Nat.testBit_and a b 0
  simp only [Nat.testBit_zero] at h
  have e : ((a &&& b) % 2 = 1) ↔ (a % 2 = 1 ∧ b % 2 = 1) := by simpa using h
  split
  · rename_i z; exact e.mpr z
  · rename_i z
    have : ¬ (a &&& b) % 2 = 1 := fun q => z (e.mp q)
    omega
theorem testBit_less : ∀ (i a b : Nat), (a - (a &&& b)).testBit i = (a.testBit i && !b.testBit i)
  | 0, a, b => by
    have h1 := and_par a b
    have h2 : a &&& b ≤ a := Nat.and_le_left
    simp only [Nat.testBit_zero]
    by_cases ha : a % 2 = 1 <;> by_cases hb : b % 2 = 1 <;> simp only [ha, hb, and_self, and_true, true_and, and_false, false_and, if_true, if_false, decide_true, decide_false, Bool.not_true, Bool.not_false, Bool.and_true, Bool.and_false, decide_eq_true_eq, decide_eq_false_iff_not] at h1 ⊢ <;> omega
  | i + 1, a, b => by
    have h1 := and_par a b
    have h2 : a &&& b ≤ a := Nat.and_le_left
    have h3 := and_half a b
    have h4 : a / 2 &&& b / 2 ≤ a / 2 := Nat.and_le_left
    have e : (a - (a &&& b)) / 2 = a / 2 - (a / 2 &&& b / 2) := by
      rw [← h3]
      by_cases ha : a % 2 = 1 <;> by_cases hb : b % 2 = 1 <;> simp only [ha, hb, and_self, and_true, true_and, and_false, false_and, if_true, if_false] at h1 <;> omega
    rw [Nat.testBit_succ, Nat.testBit_succ, Nat.testBit_succ, e]
    exact testBit_less i (a / 2) (b / 2)
def bitsN (ns : List Int) : Nat := ns.foldl (fun a n => a ||| 2 ^ n.toNat) 0
theorem bits_from : ∀ (ns : List Int) (a : Nat) (i : Nat), (∀ n ∈ ns, 0 ≤ n) → (ns.foldl (fun a n => a ||| 2 ^ n.toNat) a).testBit i = (a.testBit i || decide ((i : Int) ∈ ns))
  | [], a, i, _ => by simp
  | n :: ns, a, i, h => by
    have h0 := h n (by simp)
    rw [List.foldl_cons, bits_from ns _ i fun m hm => h m (by simp [hm]), Nat.testBit_or, Nat.testBit_two_pow]
    by_cases e : (i : Int) = n
    · have e2 : n.toNat = i := by omega
      simp [e, e2]
    · have e2 : ¬ n.toNat = i := by omega
      simp [e, e2]
theorem testBit_bits {ns : List Int} (h : ∀ n ∈ ns, 0 ≤ n) (i : Nat) : (bitsN ns).testBit i = decide ((i : Int) ∈ ns) := by
  unfold bitsN
  rw [bits_from ns 0 i h]
  simp
theorem bits_ext {ns ms : List Int} (h1 : ∀ n ∈ ns, 0 ≤ n) (h2 : ∀ n ∈ ms, 0 ≤ n) (h : ∀ x, x ∈ ns ↔ x ∈ ms) : bitsN ns = bitsN ms := by
  refine Nat.eq_of_testBit_eq fun i => ?_
  rw [testBit_bits h1, testBit_bits h2]
  simp [h]
theorem bits_inj {ns ms : List Int} (h1 : ∀ n ∈ ns, 0 ≤ n) (h2 : ∀ n ∈ ms, 0 ≤ n) (h : bitsN ns = bitsN ms) (x : Int) : x ∈ ns ↔ x ∈ ms := by
  have go : ∀ {ns ms : List Int}, (∀ n ∈ ns, 0 ≤ n) → (∀ n ∈ ms, 0 ≤ n) → bitsN ns = bitsN ms → x ∈ ns → x ∈ ms := fun {ns ms} h1 h2 h hx => by
    have h0 := h1 x hx
    have e := congrArg (fun n => n.testBit x.toNat) h
    simp only [testBit_bits h1, testBit_bits h2] at e
    have ex : ((x.toNat : Nat) : Int) = x := by omega
    rw [ex] at e
    simpa [hx] using e
  exact ⟨go h1 h2 h, go h2 h1 h.symm⟩
theorem bits_or {ns ms ks : List Int} (h1 : ∀ n ∈ ns, 0 ≤ n) (h2 : ∀ n ∈ ms, 0 ≤ n) (h3 : ∀ n ∈ ks, 0 ≤ n) (h : ∀ x, x ∈ ks ↔ x ∈ ns ∨ x ∈ ms) : Builtin.bitOr (bitsN ns : Int) (bitsN ms : Int) = (bitsN ks : Int) := by
  rw [bitOr_nat]
  refine congrArg _ (Nat.eq_of_testBit_eq fun i => ?_)
  rw [Nat.testBit_or, testBit_bits h1, testBit_bits h2, testBit_bits h3]
  simp [h]
theorem bits_less {ns ms ks : List Int} (h1 : ∀ n ∈ ns, 0 ≤ n) (h2 : ∀ n ∈ ms, 0 ≤ n) (h3 : ∀ n ∈ ks, 0 ≤ n) (h : ∀ x, x ∈ ks ↔ x ∈ ns ∧ x ∉ ms) : Builtin.bitAnd (bitsN ns : Int) (Builtin.bitNot (bitsN ms : Int)) = (bitsN ks : Int) := by
  rw [bitAndNot_nat]
  refine congrArg _ (Nat.eq_of_testBit_eq fun i => ?_)
  rw [testBit_less, testBit_bits h1, testBit_bits h2, testBit_bits h3]
  simp [h]
/-- as Python makes them -/
theorem bits_fold : ∀ (ns : List Int) (a : Nat), (∀ n ∈ ns, 0 ≤ n) → ns.foldl (fun (x : Int) n => Builtin.bitOr x (1 * 2 ^ n.toNat)) (a : Int) = ((ns.foldl (fun a n => a ||| 2 ^ n.toNat) a : Nat) : Int)
  | [], _, _ => rfl
  | n :: ns, a, h => by
    have e : (1 : Int) * 2 ^ n.toNat = ((2 ^ n.toNat : Nat) : Int) := by rw [Int.one_mul]; exact (Int.natCast_pow 2 _).symm
    rw [List.foldl_cons, List.foldl_cons, e, bitOr_nat]
    exact bits_fold ns _ fun m hm => h m (by simp [hm])
/-- the spots of bits, below n -/
def spotsN (n b : Nat) : List Int := ((List.range n).filter fun i => b.testBit i).map fun i => ((i : Nat) : Int)
theorem mem_spots {n b : Nat} {x : Int} : x ∈ spotsN n b ↔ 0 ≤ x ∧ x < n ∧ b.testBit x.toNat = true := by
  unfold spotsN
  simp only [List.mem_map, List.mem_filter, List.mem_range]
  constructor
  · rintro ⟨i, ⟨h1, h2⟩, rfl⟩
    exact ⟨by omega, by omega, by simpa using h2⟩
  · rintro ⟨h1, h2, h3⟩
    exact ⟨x.toNat, ⟨by omega, h3⟩, by omega⟩
theorem spots_lt (n b : Nat) : (spotsN n b).Pairwise (· < ·) := by
  unfold spotsN
  rw [List.pairwise_map]
  exact (List.pairwise_lt_range.sublist List.filter_sublist).imp fun h => by omega
theorem spots_bits {n : Nat} {ns : List Int} (h : ∀ m ∈ ns, 0 ≤ m ∧ m < n) : spotsN n (bitsN ns) = sortU ns := by
  refine lt_unique (spots_lt _ _) (sortU_lt ns) fun x => ?_
  rw [mem_spots, mem_sortU, testBit_bits fun m hm => (h m hm).1]
  constructor
  · rintro ⟨h1, _, h3⟩
    have : ((x.toNat : Nat) : Int) = x := by omega
    simpa [this] using h3
  · intro hx
    have h1 := h x hx
    have : ((x.toNat : Nat) : Int) = x := by omega
    exact ⟨h1.1, h1.2, by simp [this, hx]⟩
theorem bits_spots {n b : Nat} (h : b < 2 ^ n) : bitsN (spotsN n b) = b := by
  refine Nat.eq_of_testBit_eq fun i => ?_
  rw [testBit_bits fun m hm => (mem_spots.mp hm).1]
  by_cases hi : i < n
  · simp [mem_spots, hi]
  · have : b.testBit i = false := Nat.testBit_lt_two_pow (Nat.lt_of_lt_of_le h (Nat.pow_le_pow_right (by decide) (by omega)))
    rw [this]
    simp [mem_spots]
    omega
theorem bits_lt {n : Nat} {ns : List Int} (h : ∀ m ∈ ns, 0 ≤ m ∧ m < n) : bitsN ns < 2 ^ n := by
  refine Nat.lt_pow_two_of_testBit _ fun i hi => ?_
  rw [testBit_bits fun m hm => (h m hm).1]
  refine decide_eq_false fun z => ?_
  have := h _ z
  omega
/-- the test that Python makes -/
theorem bit_at (b i : Nat) : (decide (Builtin.bitAnd ((b : Int) / 2 ^ ((i : Nat) : Int).toNat) 1 = 1)) = b.testBit i := by
  rw [PyProof.Rows.bitAnd_m1, Nat.testBit_eq_decide_div_mod_eq]
  have e : ((b : Int) / 2 ^ ((i : Nat) : Int).toNat) % 2 = ((b / 2 ^ i % 2 : Nat) : Int) := by
    simp
  rw [e]
  by_cases h : b / 2 ^ i % 2 = 1
  · simp [h]
  · have : b / 2 ^ i % 2 = 0 := by omega
    simp [this]
end Py

namespace Py
open PySem PySem.Spec PyProof.Rows L2
/-! ### data whose text may be asked for -/
structure Nice (w p : Nat) (d : D) : Prop where
  sh : d.showable = true
  ls : d.leavesShort 13 = true
  wt : d.weight ≤ w
  de : d.depth ≤ p
theorem Nice.mono {w p w' p' : Nat} {d : D} (h : Nice w p d) (h1 : w ≤ w') (h2 : p ≤ p') : Nice w' p' d := ⟨h.sh, h.ls, Nat.le_trans h.wt h1, Nat.le_trans h.de h2⟩
theorem nice_none : Nice 0 0 .none := ⟨rfl, rfl, by simp [PyData.weight], by simp [PyData.depth]⟩
theorem nice_bool (b : Bool) : Nice 0 0 (.bool b) := ⟨rfl, rfl, by simp [PyData.weight], by simp [PyData.depth]⟩
theorem nice_int {i : Int} (h : i.natAbs < 1000000000000) : Nice 41 0 (.int i) := by
  have h2 : i.natAbs.log2 < 40 := by
    by_cases z : i.natAbs = 0
    · rw [z]; decide
    · exact (Nat.log2_lt z).mpr (by omega)
  refine ⟨?_, ?_, ?_, by simp [PyData.depth]⟩
  · simp only [PyData.showable, decide_eq_true_eq]
    omega
  · simp only [PyData.leavesShort, decide_eq_true_eq]
    exact PyData.shown_int_le (by simpa using h)
  · simp only [PyData.weight]
    split <;> omega
theorem nice_emptyDict : Nice 0 1 (.dict []) := ⟨by simp [PyData.showable, PyData.showableKv], by simp [PyData.leavesShort, PyData.leavesShortKv], by simp [PyData.weight, PyData.weightKv], by simp [PyData.depth, PyData.depthKv]⟩
theorem nice_all {w p : Nat} : ∀ {ds : List D}, (∀ d ∈ ds, Nice w p d) → PyData.showableAll ds = true ∧ PyData.leavesShortAll 13 ds = true ∧ PyData.weightAll ds ≤ ds.length * (w + 1) ∧ PyData.depthAll ds ≤ p
  | [], _ => ⟨rfl, rfl, by simp [PyData.weightAll], by simp [PyData.depthAll]⟩
  | d :: ds, h => by
    obtain ⟨h1, h2, h3, h4⟩ := nice_all fun x hx => h x (List.mem_cons_of_mem _ hx)
    have q := h d (by simp)
    refine ⟨by rw [PyData.showableAll, q.sh, h1]; rfl, by rw [PyData.leavesShortAll, q.ls, h2]; rfl, ?_, ?_⟩
    · rw [PyData.weightAll, List.length_cons, Nat.succ_mul]
      have := q.wt
      omega
    · rw [PyData.depthAll]
      have := q.de
      omega
theorem nice_list {w p : Nat} {ds : List D} (h : ∀ d ∈ ds, Nice w p d) : Nice (ds.length * (w + 1)) (p + 1) (.list ds) := by
  obtain ⟨h1, h2, h3, h4⟩ := nice_all h
  exact ⟨by simpa [PyData.showable] using h1, by simpa [PyData.leavesShort] using h2, by simpa [PyData.weight] using h3, by rw [PyData.depth]; omega⟩
theorem nice_tuple {w p : Nat} {ds : List D} (h : ∀ d ∈ ds, Nice w p d) : Nice (ds.length * (w + 1)) (p + 1) (.tuple ds) := by
  obtain ⟨h1, h2, h3, h4⟩ := nice_all h
  exact ⟨by simpa [PyData.showable] using h1, by simpa [PyData.leavesShort] using h2, by simpa [PyData.weight] using h3, by rw [PyData.depth]; omega⟩
theorem repr_nice {w p : Nat} {d : D} {z : W} {ρ : Env'} (h : Nice w p d) (hw : w ≤ 1000000) (hp : p ≤ 64) (hv : view ρ z = some d) : cV reprF [z] ρ = some (.ok (.dat (.str d.shown)) ρ) := by
  have h1 : d.shown.length ≤ lim := by
    have := PyData.shown_le 13 (by decide) d h.ls
    have h2 := h.wt
    simp only [lim]
    omega
  have h3 : d.depth ≤ 64 := Nat.le_trans h.de hp
  have e : reprF [d] = some (.str d.shown) := by
    simp only [reprF, h.sh, h3, h1, decide_true, Bool.and_self, if_true]
  simp only [cV, hv, e]
theorem nice_ints {ns : List Int} (h : ∀ n ∈ ns, n.natAbs < 1000000000000) : ∀ d ∈ ns.map PyData.int, Nice 41 0 d := fun d hd => by
  obtain ⟨n, hn, rfl⟩ := List.mem_map.mp hd
  exact nice_int (h n hn)
theorem mem_cut {α : Type} {xs : List α} {lo hi : Option Int} {x : α} (h : x ∈ cutD xs lo hi) : x ∈ xs := List.mem_of_mem_drop (List.mem_of_mem_take h)
theorem len_cut {α : Type} (xs : List α) (lo hi : Option Int) : (cutD xs lo hi).length ≤ xs.length := by
  unfold cutD
  rw [List.length_take, List.length_drop]
  omega
end Py

namespace Py
open PySem PySem.Spec PyProof.Rows L2
/-! ### enumerate, zip: over lists and tuples in any mix -/
def sqB (K : PySem.W.Frag) (H : Hp) (a : Addr) (xs : List V) : Bool → Prop
  | true => SqL K H a xs
  | false => SqT K H a xs
def itB (h : Heap) (it a : Addr) (i : Nat) : Bool → Prop
  | true => h.IsListIter it a i
  | false => h.IsTupleIter it a i
def arB (h : Heap) (a : Addr) (its : Array Value) : Bool → Prop
  | true => h.IsList a its
  | false => h.IsTuple a its
def itObj (a : Addr) (b : Bool) : Obj := { cls := .type (match b with | true => "list_iterator" | false => "tuple_iterator"), data := .fields #[.ref a, .int 0 0] }
theorem itB_new {h : Heap} {it a : Addr} {b : Bool} (e : h.get? it = some (itObj a b)) : itB h it a 0 b := by
  cases b <;> exact ⟨_, e, rfl, rfl⟩
theorem itB_at {h h' : Heap} {it a : Addr} {i : Nat} {b : Bool} (x : itB h it a i b) (k : ∀ o, h.get? it = some o → h'.get? it = some o) : itB h' it a i b := by
  cases b
  · exact Heap.IsTupleIter.at x k
  · exact Heap.IsListIter.at x k
theorem itB_obj {h : Heap} {it a : Addr} {i : Nat} {b : Bool} (x : itB h it a i b) : ∃ o, h.get? it = some o ∧ ∀ v, o.data ≠ .cell v := by
  cases b <;> obtain ⟨o, ho, _, hd⟩ := x <;> exact ⟨o, ho, fun v q => by rw [hd] at q; cases q⟩
theorem inv_seqB {X : Cx} {pins : List (Addr × Obj)} {σ : L2.St} {H : Hp} {s : Shared} {a : Addr} {xs : List V} {b : Bool} (I : Inv X pins σ H s) (h : sqB X.K H a xs b) : ∃ its : List Value, Vals xs its ∧ arB s.heap a its.toArray b ∧ a < s.heap.objs.size := by
  cases b with
  | true =>
    obtain ⟨its, rv, p, _⟩ := I.list h
    exact ⟨its, rv, p.isList, p.lt⟩
  | false =>
    obtain ⟨its, rv, p, _⟩ := I.tuple h
    obtain ⟨o, ho, _⟩ := id p
    exact ⟨its, rv, p, Heap.lt_size ho⟩
theorem inv_injB {X : Cx} {pins : List (Addr × Obj)} {σ : L2.St} {H : Hp} {s : Shared} {a : Addr} {xs ys : List V} {b : Bool} (I : Inv X pins σ H s) (h : sqB X.K H a xs b) (h' : sqB X.K H a ys b) : xs = ys := by
  cases b with
  | true => exact I.list_inj h h'
  | false => exact I.tuple_inj h h'
theorem drawsB {prog : Program} {w : World} {A : Around} (hh : A.handled = none) (it a : Addr) (hne : a ≠ it) (its : Array Value) (b : Bool) :
    Draws prog w A it [it, a] its.size (fun i v => its[i]? = some v) (fun i h => itB h it a i b ∧ arB h a its b) := by
  cases b
  · exact Draws.tuple hh it a hne its
  · exact Draws.list hh it a hne its
theorem beginsB (a : Addr) (its : Array Value) (b : Bool) : Begins (.ref a) (itObj a b) (fun h => arB h a its b) := by
  cases b
  · exact begins_tuple a its
  · exact begins_list a its
theorem turn_walks {P : Program} {w : World} {K : PySem.W.Frag} {elts : List Expr} {kk : Nat} {tpos : Pos} {fp : List Addr} {it : Addr} {tn : Nat → Heap → Prop} (Go : Nat → Hp → Prop) (Rw : Nat → Hp → List V → Prop) (Nd : Nat → Hp → Prop)
    (mem : it ∈ fp) (obj : ∀ i h, tn i h → ∀ b ∈ fp, ∃ o, h.get? b = some o ∧ ∀ v, o.data ≠ .cell v) (keep : ∀ i h h', tn i h → (∀ b ∈ fp, ∀ o, h.get? b = some o → h'.get? b = some o) → tn i h')
    (self : ∀ (A : Around) (i : Nat) (s : Shared) (Q : Value → Shared → Prop) (E : Value → Shared → Prop), tn i s.heap → Q (.ref it) s → wpAny (model P w) A (pyIter (.ref it)) Q E s)
    (hw : ∀ (X : Cx), X.prog = P → X.w = w → X.K = K → X.calm = true → ∀ (i : Nat) (pins : List (Addr × Obj)) (s : Shared) (σ : L2.St) (H : Hp), Inv X pins σ H s → (∀ b ∈ fp, FpOk X pins H b) → tn i s.heap → (Go i H ∨ Nd i H) →
      ∃ FP wr n Pt St Mid, WalksT P w X.A it FP wr n Pt St Mid ∧ (∀ b ∈ wr, b ∈ fp) ∧ St i s.heap ∧ (∀ h, St (i + 1) h → (∀ b ∈ fp, b ∉ wr → ∀ o, s.heap.get? b = some o → h.get? b = some o) → tn (i + 1) h) ∧ (Go i H → i < n) ∧ (Nd i H → i = n) ∧
        ∀ vals, Pt i vals → ∃ row, Rw i H row ∧ Vals row vals.toList ∧ row.length ≤ sizeLine) :
    Turn P w K (.Tuple elts kk tpos) ⟨Go, fun i H v H' => ∃ T row, v = .ref T ∧ H T = none ∧ H' = upd H T (.tup row) ∧ Rw i H row, Nd⟩ fp it tn where
  mem := mem
  obj := obj
  keep := keep
  self := self
  item := by
    intro X hP hw' hK hc i pins s σ H E I hf st hg
    obtain ⟨FP, wr, n, Pt, St, Mid, W, sub, st1, back, lt, _, tp⟩ := hw X hP hw' hK hc i pins s σ H I hf st (.inl hg)
    subst hP hw' hK
    refine W.item i s _ E (lt hg) st1 fun T vals h' tk hp hT hTup mid hk => ⟨_, rfl, W.go elts kk tpos i T { s with heap := h', toks := tk } _ E mid fun h'' st2 hk2 => ?_⟩
    obtain ⟨row, hr, hv, hz⟩ := tp vals hp
    have ap := W.apart i T h' mid
    have hT2 : Heap.IsTuple h'' T vals := hTup.at fun o e => hk2 T o ap e
    have new : ObjOk X.prog X.w (upd H T (.tup row)) h'' T (.tup row) := ⟨hz, vals.toList, hv, by rw [Array.toArray_toList]; exact hT2⟩
    have I1 : Inv X pins σ (upd H T (.tup row)) { s with heap := h'', toks := tk } :=
      I.turnedNew (t' := tk) (ch := fp) (fun b ob hb q => hk2 b ob (fun z => hb (sub b z)) (hk b ob (fun z => hb (sub b z)) q)) hf hT new
    refine ⟨.ref T, _, I1, rfl, ⟨T, row, rfl, I.hok.fresh hT, rfl, hr⟩, back h'' st2 fun b hb nb o e => hk2 b o nb (hk b o nb e), fun b hb => ?_⟩
    obtain ⟨o, ho, _⟩ := obj i s.heap st b hb
    rw [upd_ne (Nat.ne_of_lt (Nat.lt_of_lt_of_le (Heap.lt_size ho) hT))]
    exact (hf b hb).1
  done := by
    intro X hP hw' hK hc i pins s σ H E I hf st hg
    obtain ⟨FP, wr, n, Pt, St, Mid, W, sub, st1, back, _, en, tp⟩ := hw X hP hw' hK hc i pins s σ H I hf st (.inr hg)
    subst hP hw' hK
    have e := en hg
    subst e
    exact W.done s _ E st1 fun h' tk hk => ⟨rfl, I.turnedL (t' := tk) (ch := fp) (fun b o hb q => hk b o (fun z => hb (sub b z)) q) hf⟩
/-! enumerate -/
def ItE (K : PySem.W.Frag) (a : Addr) (b : Bool) : It :=
  ⟨fun i H => ∃ xs, sqB K H a xs b ∧ i < xs.length, fun i H v H' => ∃ T row, v = .ref T ∧ H T = none ∧ H' = upd H T (.tup row) ∧ ∃ x, row = [.int (i : Nat), x] ∧ ∀ xs, sqB K H a xs b → xs[i]? = some x, fun i H => ∃ xs, sqB K H a xs b ∧ i = xs.length⟩
theorem val_at {xs : List V} {its : List Value} {i : Nat} {x : Value} (rv : Vals xs its) (hx : its[i]? = some x) : ∃ v, xs[i]? = some v ∧ RelV v x := by
  induction rv generalizing i with
  | nil => simp at hx
  | cons h t ih =>
    cases i with
    | zero => simp at hx; subst hx; exact ⟨_, rfl, h⟩
    | succ i => exact ih (by simpa using hx)
theorem turn_en {P : Program} {w : World} {K : PySem.W.Frag} {elts : List Expr} {kk : Nat} {tpos : Pos} (a e it : Addr) (b : Bool) (hne : e ≠ it) (ha : a ≠ it) (hae : a ≠ e) :
    Turn P w K (.Tuple elts kk tpos) (ItE K a b) [e, it] e (fun i h => (∃ old, IsEnum h e it ((i : Nat) : Int) old) ∧ itB h it a i b) := by
  refine turn_walks (fun i H => ∃ xs, sqB K H a xs b ∧ i < xs.length) (fun i H row => ∃ x, row = [.int (i : Nat), x] ∧ ∀ xs, sqB K H a xs b → xs[i]? = some x) (fun i H => ∃ xs, sqB K H a xs b ∧ i = xs.length) (by simp) (fun i h st c hc => ?_) (fun i h h' st k => ?_) (fun A i s Q E st h => ?_) (fun X hP hw hK hc i pins s σ H I hf st hg => ?_)
  · obtain ⟨⟨old, he⟩, hi⟩ := st
    have e' : c = e ∨ c = it := by simpa using hc
    rcases e' with z | z
    · rw [z]; exact ⟨_, he, fun v q => nomatch q⟩
    · rw [z]; exact itB_obj hi
  · obtain ⟨⟨old, he⟩, hi⟩ := st
    exact ⟨⟨old, k e (by simp) _ he⟩, itB_at hi fun o q => k it (by simp) o q⟩
  · obtain ⟨⟨_, he⟩, _⟩ := st
    exact wpAny_pyIter_enum he h
  · subst hP hw hK
    obtain ⟨⟨old, he⟩, hi⟩ := st
    have hsq : ∃ xs, sqB X.K H a xs b ∧ (i < xs.length ∨ i = xs.length) := by
      rcases hg with ⟨xs, h1, h2⟩ | ⟨xs, h1, h2⟩
      · exact ⟨xs, h1, .inl h2⟩
      · exact ⟨xs, h1, .inr h2⟩
    obtain ⟨xs, hq, _⟩ := hsq
    obtain ⟨its, rv, ar, _⟩ := inv_seqB I hq
    have hh : X.A.in1.handled = none := I.ok.hd hc
    have hl := rv.length
    have uq : ∀ ys, sqB X.K H a ys b → ys = xs := fun ys hy => inv_injB I hy hq
    refine ⟨_, _, its.toArray.size, _, _, _, WalksT.enumerateD (drawsB hh it a ha its.toArray b) e hne (by simp [hne, Ne.symm hae]) (by simp), fun c hc => hc, ⟨⟨old, he⟩, hi, ar⟩, fun h st2 _ => ⟨st2.1, st2.2.1⟩, ?_, ?_, ?_⟩
    · rintro ⟨ys, hy, hlt⟩
      rw [uq ys hy] at hlt
      simp; omega
    · rintro ⟨ys, hy, hlt⟩
      rw [uq ys hy] at hlt
      simp; omega
    · rintro vals ⟨t, x, hx, ev⟩
      subst ev
      obtain ⟨v, hv, rv2⟩ := val_at (i := i) rv (by simpa using hx)
      exact ⟨[.int (i : Nat), v], ⟨v, rfl, fun ys hy => by rw [uq ys hy]; exact hv⟩, .cons ⟨_, rfl⟩ (.cons rv2 .nil), by show 2 ≤ sizeLine; decide⟩
set_option maxHeartbeats 1000000 in
theorem meets_enum1 {v : Value} {o : Obj} {H : Heap → Prop} (B : Begins v o H) :
    Meets (Builtin.«enumerate.__new__» ⟨[.type "enumerate", v], []⟩) (fun _ R s => H s.heap ∧
      R (.ok (.ret (.ref (s.heap.push o).objs.size))) { s with heap := (s.heap.push o).push { cls := .type "enumerate", data := .fields #[.none, .bool false, .ref s.heap.objs.size, rawInt 0, .none, .none] } }) :=
  .of_wp fun prog w A R s h => by
    obtain ⟨hp, g, d, tk, os⟩ := s; obtain ⟨h1, h⟩ := h
    have hsub := sub_enumerate
    have q1 : ∀ {A' : Around} {E : Value → Shared → Prop} {Q : Value → Shared → Prop}, Q (.ref hp.objs.size) ⟨hp.push o, g, d, tk, os⟩ → wpAny (model prog w) A' (pyIter v) Q E ⟨hp, g, d, tk, os⟩ :=
      fun q => B.iter prog w _ _ ⟨hp, g, d, tk, os⟩ _ h1 q
    wp_walk using q1
    refine wpAny_stack_any fun st => wpAny_pure ?_
    split
    · rename_i c _ _ _ _ _
      cases (c == Value.type "enumerate")
      · wp_walk using q1
        exact ⟨_, rfl, h⟩
      · wp_walk using q1
        exact ⟨_, rfl, h⟩
    · wp_walk using q1
      exact ⟨_, rfl, h⟩
theorem enum_begins1 {prog : Program} {w : World} {A : Around} {E : Value → Shared → Prop} {s : Shared} {v : Value} {o : Obj} {H : Heap → Prop} {Q : Value → Shared → Prop} (B : Begins v o H) (h1 : H s.heap)
    (h : ∀ h', IsEnum h' (s.heap.objs.size + 1) s.heap.objs.size 0 .none → h'.get? s.heap.objs.size = some o → h'.objs.size = s.heap.objs.size + 2 →
      (∀ b o, s.heap.get? b = some o → h'.get? b = some o) → Q (.ref (s.heap.objs.size + 1)) { s with heap := h' }) :
    wpAny (model prog w) A (call (.type "enumerate") [v]) Q E s := by
  refine callType_new F.called_enumerate (by decide) (F.typeCall_enumerate_1 _) (F.newCall_enumerate_1 _) (fun obj => F.args_object_init_2 obj _) F.entry_enumerate_new
    (meets_enum1 B) ⟨h1, ?_⟩
  have hz : (s.heap.push o).objs.size = s.heap.objs.size + 1 := Heap.size_push ..
  show _ ∧ _
  rw [hz]
  have he : IsEnum ((s.heap.push o).push { cls := .type "enumerate", data := .fields #[.none, .bool false, .ref s.heap.objs.size, rawInt 0, .none, .none] }) (s.heap.objs.size + 1) s.heap.objs.size 0 .none := by
    have := Heap.get?_push_size (s.heap.push o) (o := { cls := .type "enumerate", data := .fields #[.none, .bool false, .ref s.heap.objs.size, rawInt 0, .none, .none] }) rfl
    rw [hz] at this; exact this
  refine ⟨⟨_, he, rfl⟩, h _ he (Heap.get?_push_of_some _ (Heap.get?_push_size _ B.free)) (by rw [Heap.size_push, hz]) fun b o x => Heap.get?_push_of_some _ (Heap.get?_push_of_some _ x)⟩
def iEn (K : PySem.W.Frag) (ta : TA) : TI := fun σ H R => ta σ H fun vs H1 => ∃ a b xs, vs = [.ref a] ∧ sqB K H1 a xs b ∧ R (ItE K a b) H1
theorem pi_en {X : Cx} {e : Expr} {ta : TA} {p pos tpos : Pos} {elts : List Expr} {kk : Nat} (hg : Gl X "enumerate") (hm : X.mg "enumerate" = none) (ha : PA X [e] ta) (hs : starEach [e] X.env = [(false, eval e X.env)] := by rfl) :
    PI X (.Tuple elts kk tpos) (.Call (.Name "enumerate" p) [e] [] pos) (iEn X.K ta) := by
  refine ⟨fun pins s σ H R I h => ?_⟩
  refine Call_ (ld_blt I hg hm boot_enumerate (PyProof.Rows.callWith_type1 (thn (ha.run pos pins s σ H _ I h) fun us s1 ⟨vs, H1, I1, r1, q1⟩ => ?_) hs rfl))
  obtain ⟨a, b, xs, ex, hq, q⟩ := q1
  subst ex
  cases r1 with
  | cons r rr =>
    cases rr
    cases r
    obtain ⟨its, rv, ar, hlt⟩ := inv_seqB I1 hq
    refine enum_begins1 (beginsB a its.toArray b) ar fun h' he hit hsz hk => wpAny_pyIter_enum he ?_
    have I2 : Inv X pins σ H1 { s1 with heap := h' } := I1.kept (t' := s1.toks) hk
    refine ⟨s1.heap.objs.size + 1, [s1.heap.objs.size + 1, s1.heap.objs.size], _, _, H1, rfl, I2, turn_en a (s1.heap.objs.size + 1) s1.heap.objs.size b (Nat.succ_ne_self _) (Nat.ne_of_lt hlt) (Nat.ne_of_lt (Nat.lt_succ_of_lt hlt)), ⟨⟨.none, he⟩, itB_new hit⟩, fun c hc => ?_, q⟩
    have e' : c = s1.heap.objs.size + 1 ∨ c = s1.heap.objs.size := by simpa using hc
    have hle : s1.heap.objs.size ≤ c := by
      rcases e' with z | z
      · rw [z]; exact Nat.le_add_right _ _
      · rw [z]; exact Nat.le_refl _
    exact I1.fpOk hle (I1.hok.fresh hle)
def ItZ2 (K : PySem.W.Frag) (a b : Addr) (b1 b2 : Bool) : It :=
  ⟨fun i H => ∃ xs ys, sqB K H a xs b1 ∧ sqB K H b ys b2 ∧ i < xs.length ∧ i < ys.length, fun i H v H' => ∃ T row, v = .ref T ∧ H T = none ∧ H' = upd H T (.tup row) ∧ ∃ x y, row = [x, y] ∧ (∀ l, sqB K H a l b1 → l[i]? = some x) ∧ (∀ l, sqB K H b l b2 → l[i]? = some y), fun i H => ∃ xs ys, sqB K H a xs b1 ∧ sqB K H b ys b2 ∧ i = min xs.length ys.length⟩
theorem wr2 {z TI TO i1 i2 e : Addr} (hc : e ∈ [z, TO, i1, i2]) : e ∈ [z, TI, TO, i1, i2] := by
  simp only [List.mem_cons, List.not_mem_nil, or_false] at hc ⊢
  rcases hc with q | q | q | q <;> simp [q]
theorem turn_z2 {P : Program} {w : World} {K : PySem.W.Frag} {elts : List Expr} {kk : Nat} {tpos : Pos} (a b z TI TO i1 i2 : Addr) (b1 b2 : Bool) (S : ZipSep2 z TI TO i1 i2 [i1, a] [i2, b]) (n1 : a ≠ i1) (n2 : b ≠ i2) :
    Turn P w K (.Tuple elts kk tpos) (ItZ2 K a b b1 b2) [z, TI, TO, i1, i2] z (fun i h => IsZip h z TI TO .none ∧ IsTupOf2 h TI (.ref i1) (.ref i2) ∧ (∃ o1 o2, IsTupOf2 h TO o1 o2) ∧ itB h i1 a i b1 ∧ itB h i2 b i b2) := by
  refine turn_walks (fun i H => ∃ xs ys, sqB K H a xs b1 ∧ sqB K H b ys b2 ∧ i < xs.length ∧ i < ys.length) (fun i H row => ∃ x y, row = [x, y] ∧ (∀ l, sqB K H a l b1 → l[i]? = some x) ∧ (∀ l, sqB K H b l b2 → l[i]? = some y)) (fun i H => ∃ xs ys, sqB K H a xs b1 ∧ sqB K H b ys b2 ∧ i = min xs.length ys.length) (by simp) (fun i h st e hc => ?_) (fun i h h' st k => ?_) (fun A i s Q E st h => ?_) (fun X hP hw hK hc i pins s σ H I hf st hg => ?_)
  · obtain ⟨hz, hTI, ⟨o1, o2, hTO⟩, h1, h2⟩ := st
    have e' : e = z ∨ e = TI ∨ e = TO ∨ e = i1 ∨ e = i2 := by simpa using hc
    rcases e' with q | q | q | q | q
    · rw [q]; exact ⟨_, hz, fun v q => nomatch q⟩
    · rw [q]; exact ⟨_, hTI, fun v q => nomatch q⟩
    · rw [q]; exact ⟨_, hTO, fun v q => nomatch q⟩
    · rw [q]; exact itB_obj h1
    · rw [q]; exact itB_obj h2
  · obtain ⟨hz, hTI, ⟨o1, o2, hTO⟩, h1, h2⟩ := st
    exact ⟨k z (by simp) _ hz, k TI (by simp) _ hTI, ⟨o1, o2, k TO (by simp) _ hTO⟩, itB_at h1 fun o q => k i1 (by simp) o q, itB_at h2 fun o q => k i2 (by simp) o q⟩
  · exact wpAny_pyIter_zip st.1 h
  · subst hP hw hK
    obtain ⟨hz, hTI, hTO, h1, h2⟩ := st
    have hsq : ∃ xs ys, sqB X.K H a xs b1 ∧ sqB X.K H b ys b2 := by
      rcases hg with ⟨xs, ys, q1, q2, _⟩ | ⟨xs, ys, q1, q2, _⟩
      · exact ⟨xs, ys, q1, q2⟩
      · exact ⟨xs, ys, q1, q2⟩
    obtain ⟨xs, ys, q1, q2⟩ := hsq
    have hh : X.A.in1.handled = none := I.ok.hd hc
    obtain ⟨its1, rv1, ar1, _⟩ := inv_seqB I q1
    have l1 := rv1.length
    have uq1 : ∀ l, sqB X.K H a l b1 → l = xs := fun l hy => inv_injB I hy q1
    obtain ⟨its2, rv2, ar2, _⟩ := inv_seqB I q2
    have l2 := rv2.length
    have uq2 : ∀ l, sqB X.K H b l b2 → l = ys := fun l hy => inv_injB I hy q2
    refine ⟨_, _, min its1.toArray.size its2.toArray.size, _, _, _, WalksT.zipD2 S (drawsB hh i1 a n1 its1.toArray b1) (drawsB hh i2 b n2 its2.toArray b2), fun c hc => wr2 hc, ⟨hz, hTI, hTO, ⟨h1, ar1⟩, ⟨h2, ar2⟩⟩, fun h st2 _ => ⟨st2.1, st2.2.1, st2.2.2.1, st2.2.2.2.1.1, st2.2.2.2.2.1⟩, ?_, ?_, ?_⟩
    · rintro ⟨y1, y2, p1, p2, hlt⟩
      rw [uq1 y1 p1, uq2 y2 p2] at hlt
      simp; omega
    · rintro ⟨y1, y2, p1, p2, hlt⟩
      rw [uq1 y1 p1, uq2 y2 p2] at hlt
      simp; omega
    · rintro vals ⟨x1, x2, e1, e2, ev⟩
      subst ev
      obtain ⟨v1, hv1, rr1⟩ := val_at (i := i) rv1 (by simpa using e1)
      obtain ⟨v2, hv2, rr2⟩ := val_at (i := i) rv2 (by simpa using e2)
      exact ⟨[v1, v2], ⟨v1, v2, rfl, fun l hl => by rw [uq1 l hl]; exact hv1, fun l hl => by rw [uq2 l hl]; exact hv2⟩, .cons rr1 (.cons rr2 .nil), by show 2 ≤ sizeLine; decide⟩
def iZ2 (K : PySem.W.Frag) (ta : TA) : TI := fun σ H R => ta σ H fun vs H1 => ∃ a b b1 b2 xs ys, vs = [.ref a, .ref b] ∧ sqB K H1 a xs b1 ∧ sqB K H1 b ys b2 ∧ R (ItZ2 K a b b1 b2) H1
theorem pi_z2 {X : Cx} {e e2 : Expr} {ta : TA} {p pos tpos : Pos} {elts : List Expr} {kk : Nat} (hg : Gl X "zip") (hm : X.mg "zip" = none) (ha : PA X [e, e2] ta)
    (hs : starEach [e, e2] X.env = (false, eval e X.env) :: starEach [e2] X.env := by rfl) (hpl : (backTo pos (starEach [e2] X.env)).any (·.1) = false := by rfl) :
    PI X (.Tuple elts kk tpos) (.Call (.Name "zip" p) [e, e2] [] pos) (iZ2 X.K ta) := by
  refine ⟨fun pins s σ H R I h => ?_⟩
  refine Call_ (ld_blt I hg hm PyProof.Rows.boot_zip (PyProof.Rows.callWith_type1 (thn (ha.run pos pins s σ H _ I h) fun us s1 ⟨vs, H1, I1, r1, q1⟩ => ?_) hs hpl))
  obtain ⟨a, b, b1, b2, xs, ys, ex, q1, q2, q⟩ := q1
  subst ex
  cases r1 with
  | cons w1 r1 =>
    cases r1 with
    | cons w2 r1 =>
      cases r1
      cases w1
      cases w2
      obtain ⟨its1, rv1, ar1, t1⟩ := inv_seqB I1 q1
      obtain ⟨its2, rv2, ar2, t2⟩ := inv_seqB I1 q2
      have lo : ∀ j : Nat, a ≠ s1.heap.objs.size + j ∧ b ≠ s1.heap.objs.size + j := fun j => ⟨Nat.ne_of_lt (Nat.lt_of_lt_of_le t1 (Nat.le_add_right _ _)), Nat.ne_of_lt (Nat.lt_of_lt_of_le t2 (Nat.le_add_right _ _))⟩
      refine zip_begins2 (beginsB a its1.toArray b1) (beginsB b its2.toArray b2) ar1 ar2 fun h' hz hTI hTO g1 g2 hsz hk => wpAny_pyIter_zip hz ?_
      have I2 : Inv X pins σ H1 { s1 with heap := h' } := I1.kept (t' := s1.toks) hk
      have S := zip_sep2 (N := s1.heap.objs.size) (fp1 := [a]) (fp2 := [b]) (fun b hb => by rw [List.mem_singleton.mp hb]; exact t1) (fun b hb => by rw [List.mem_singleton.mp hb]; exact t2)
      refine ⟨s1.heap.objs.size + 4, [s1.heap.objs.size + 4, s1.heap.objs.size + 2, s1.heap.objs.size + 3, s1.heap.objs.size, s1.heap.objs.size + 1], _, _, H1, rfl, I2, turn_z2 a b _ _ _ _ _ b1 b2 S ((lo 0).1) ((lo 1).2), ⟨hz, hTI, ⟨_, _, hTO⟩, itB_new g1, itB_new g2⟩, fun c hcm => ?_, q⟩
      have hle : s1.heap.objs.size ≤ c := by
        simp only [List.mem_cons, List.not_mem_nil, or_false] at hcm
        rcases hcm with z | z | z | z | z <;> rw [z] <;> first
          | exact Nat.le_refl _
          | exact Nat.le_add_right _ _
      exact I1.fpOk hle (I1.hok.fresh hle)
def ItZ3 (K : PySem.W.Frag) (a b c : Addr) (b1 b2 b3 : Bool) : It :=
  ⟨fun i H => ∃ xs ys zs, sqB K H a xs b1 ∧ sqB K H b ys b2 ∧ sqB K H c zs b3 ∧ i < xs.length ∧ i < ys.length ∧ i < zs.length, fun i H v H' => ∃ T row, v = .ref T ∧ H T = none ∧ H' = upd H T (.tup row) ∧ ∃ x y u, row = [x, y, u] ∧ (∀ l, sqB K H a l b1 → l[i]? = some x) ∧ (∀ l, sqB K H b l b2 → l[i]? = some y) ∧ (∀ l, sqB K H c l b3 → l[i]? = some u), fun i H => ∃ xs ys zs, sqB K H a xs b1 ∧ sqB K H b ys b2 ∧ sqB K H c zs b3 ∧ i = min (min xs.length ys.length) zs.length⟩
theorem wr3 {z TI TO i1 i2 i3 e : Addr} (hc : e ∈ [z, TO, i1, i2, i3]) : e ∈ [z, TI, TO, i1, i2, i3] := by
  simp only [List.mem_cons, List.not_mem_nil, or_false] at hc ⊢
  rcases hc with q | q | q | q | q <;> simp [q]
theorem turn_z3 {P : Program} {w : World} {K : PySem.W.Frag} {elts : List Expr} {kk : Nat} {tpos : Pos} (a b c z TI TO i1 i2 i3 : Addr) (b1 b2 b3 : Bool) (S : ZipSep3 z TI TO i1 i2 i3 [i1, a] [i2, b] [i3, c]) (n1 : a ≠ i1) (n2 : b ≠ i2) (n3 : c ≠ i3) :
    Turn P w K (.Tuple elts kk tpos) (ItZ3 K a b c b1 b2 b3) [z, TI, TO, i1, i2, i3] z (fun i h => IsZip h z TI TO .none ∧ IsTupOf3 h TI (.ref i1) (.ref i2) (.ref i3) ∧ (∃ o1 o2 o3, IsTupOf3 h TO o1 o2 o3) ∧ itB h i1 a i b1 ∧ itB h i2 b i b2 ∧ itB h i3 c i b3) := by
  refine turn_walks (fun i H => ∃ xs ys zs, sqB K H a xs b1 ∧ sqB K H b ys b2 ∧ sqB K H c zs b3 ∧ i < xs.length ∧ i < ys.length ∧ i < zs.length) (fun i H row => ∃ x y u, row = [x, y, u] ∧ (∀ l, sqB K H a l b1 → l[i]? = some x) ∧ (∀ l, sqB K H b l b2 → l[i]? = some y) ∧ (∀ l, sqB K H c l b3 → l[i]? = some u)) (fun i H => ∃ xs ys zs, sqB K H a xs b1 ∧ sqB K H b ys b2 ∧ sqB K H c zs b3 ∧ i = min (min xs.length ys.length) zs.length) (by simp) (fun i h st e hc => ?_) (fun i h h' st k => ?_) (fun A i s Q E st h => ?_) (fun X hP hw hK hc i pins s σ H I hf st hg => ?_)
  · obtain ⟨hz, hTI, ⟨o1, o2, o3, hTO⟩, h1, h2, h3⟩ := st
    have e' : e = z ∨ e = TI ∨ e = TO ∨ e = i1 ∨ e = i2 ∨ e = i3 := by simpa using hc
    rcases e' with q | q | q | q | q | q
    · rw [q]; exact ⟨_, hz, fun v q => nomatch q⟩
    · rw [q]; exact ⟨_, hTI, fun v q => nomatch q⟩
    · rw [q]; exact ⟨_, hTO, fun v q => nomatch q⟩
    · rw [q]; exact itB_obj h1
    · rw [q]; exact itB_obj h2
    · rw [q]; exact itB_obj h3
  · obtain ⟨hz, hTI, ⟨o1, o2, o3, hTO⟩, h1, h2, h3⟩ := st
    exact ⟨k z (by simp) _ hz, k TI (by simp) _ hTI, ⟨o1, o2, o3, k TO (by simp) _ hTO⟩, itB_at h1 fun o q => k i1 (by simp) o q, itB_at h2 fun o q => k i2 (by simp) o q, itB_at h3 fun o q => k i3 (by simp) o q⟩
  · exact wpAny_pyIter_zip st.1 h
  · subst hP hw hK
    obtain ⟨hz, hTI, hTO, h1, h2, h3⟩ := st
    have hsq : ∃ xs ys zs, sqB X.K H a xs b1 ∧ sqB X.K H b ys b2 ∧ sqB X.K H c zs b3 := by
      rcases hg with ⟨xs, ys, zs, q1, q2, q3, _⟩ | ⟨xs, ys, zs, q1, q2, q3, _⟩
      · exact ⟨xs, ys, zs, q1, q2, q3⟩
      · exact ⟨xs, ys, zs, q1, q2, q3⟩
    obtain ⟨xs, ys, zs, q1, q2, q3⟩ := hsq
    have hh : X.A.in1.handled = none := I.ok.hd hc
    obtain ⟨its1, rv1, ar1, _⟩ := inv_seqB I q1
    have l1 := rv1.length
    have uq1 : ∀ l, sqB X.K H a l b1 → l = xs := fun l hy => inv_injB I hy q1
    obtain ⟨its2, rv2, ar2, _⟩ := inv_seqB I q2
    have l2 := rv2.length
    have uq2 : ∀ l, sqB X.K H b l b2 → l = ys := fun l hy => inv_injB I hy q2
    obtain ⟨its3, rv3, ar3, _⟩ := inv_seqB I q3
    have l3 := rv3.length
    have uq3 : ∀ l, sqB X.K H c l b3 → l = zs := fun l hy => inv_injB I hy q3
    refine ⟨_, _, min (min its1.toArray.size its2.toArray.size) its3.toArray.size, _, _, _, WalksT.zipD3 S (drawsB hh i1 a n1 its1.toArray b1) (drawsB hh i2 b n2 its2.toArray b2) (drawsB hh i3 c n3 its3.toArray b3), fun c hc => wr3 hc, ⟨hz, hTI, hTO, ⟨h1, ar1⟩, ⟨h2, ar2⟩, ⟨h3, ar3⟩⟩, fun h st2 _ => ⟨st2.1, st2.2.1, st2.2.2.1, st2.2.2.2.1.1, st2.2.2.2.2.1.1, st2.2.2.2.2.2.1⟩, ?_, ?_, ?_⟩
    · rintro ⟨y1, y2, y3, p1, p2, p3, hlt⟩
      rw [uq1 y1 p1, uq2 y2 p2, uq3 y3 p3] at hlt
      simp; omega
    · rintro ⟨y1, y2, y3, p1, p2, p3, hlt⟩
      rw [uq1 y1 p1, uq2 y2 p2, uq3 y3 p3] at hlt
      simp; omega
    · rintro vals ⟨x1, x2, x3, e1, e2, e3, ev⟩
      subst ev
      obtain ⟨v1, hv1, rr1⟩ := val_at (i := i) rv1 (by simpa using e1)
      obtain ⟨v2, hv2, rr2⟩ := val_at (i := i) rv2 (by simpa using e2)
      obtain ⟨v3, hv3, rr3⟩ := val_at (i := i) rv3 (by simpa using e3)
      exact ⟨[v1, v2, v3], ⟨v1, v2, v3, rfl, fun l hl => by rw [uq1 l hl]; exact hv1, fun l hl => by rw [uq2 l hl]; exact hv2, fun l hl => by rw [uq3 l hl]; exact hv3⟩, .cons rr1 (.cons rr2 (.cons rr3 .nil)), by show 3 ≤ sizeLine; decide⟩
def iZ3 (K : PySem.W.Frag) (ta : TA) : TI := fun σ H R => ta σ H fun vs H1 => ∃ a b c b1 b2 b3 xs ys zs, vs = [.ref a, .ref b, .ref c] ∧ sqB K H1 a xs b1 ∧ sqB K H1 b ys b2 ∧ sqB K H1 c zs b3 ∧ R (ItZ3 K a b c b1 b2 b3) H1
theorem pi_z3 {X : Cx} {e e2 e3 : Expr} {ta : TA} {p pos tpos : Pos} {elts : List Expr} {kk : Nat} (hg : Gl X "zip") (hm : X.mg "zip" = none) (ha : PA X [e, e2, e3] ta)
    (hs : starEach [e, e2, e3] X.env = (false, eval e X.env) :: starEach [e2, e3] X.env := by rfl) (hpl : (backTo pos (starEach [e2, e3] X.env)).any (·.1) = false := by rfl) :
    PI X (.Tuple elts kk tpos) (.Call (.Name "zip" p) [e, e2, e3] [] pos) (iZ3 X.K ta) := by
  refine ⟨fun pins s σ H R I h => ?_⟩
  refine Call_ (ld_blt I hg hm PyProof.Rows.boot_zip (PyProof.Rows.callWith_type1 (thn (ha.run pos pins s σ H _ I h) fun us s1 ⟨vs, H1, I1, r1, q1⟩ => ?_) hs hpl))
  obtain ⟨a, b, c, b1, b2, b3, xs, ys, zs, ex, q1, q2, q3, q⟩ := q1
  subst ex
  cases r1 with
  | cons w1 r1 =>
    cases r1 with
    | cons w2 r1 =>
      cases r1 with
      | cons w3 r1 =>
        cases r1
        cases w1
        cases w2
        cases w3
        obtain ⟨its1, rv1, ar1, t1⟩ := inv_seqB I1 q1
        obtain ⟨its2, rv2, ar2, t2⟩ := inv_seqB I1 q2
        obtain ⟨its3, rv3, ar3, t3⟩ := inv_seqB I1 q3
        have lo : ∀ j : Nat, a ≠ s1.heap.objs.size + j ∧ b ≠ s1.heap.objs.size + j ∧ c ≠ s1.heap.objs.size + j := fun j => ⟨Nat.ne_of_lt (Nat.lt_of_lt_of_le t1 (Nat.le_add_right _ _)), Nat.ne_of_lt (Nat.lt_of_lt_of_le t2 (Nat.le_add_right _ _)), Nat.ne_of_lt (Nat.lt_of_lt_of_le t3 (Nat.le_add_right _ _))⟩
        refine zip_begins3 (beginsB a its1.toArray b1) (beginsB b its2.toArray b2) (beginsB c its3.toArray b3) ar1 ar2 ar3 fun h' hz hTI hTO g1 g2 g3 hsz hk => wpAny_pyIter_zip hz ?_
        have I2 : Inv X pins σ H1 { s1 with heap := h' } := I1.kept (t' := s1.toks) hk
        have S := zip_sep3 (N := s1.heap.objs.size) (fp1 := [a]) (fp2 := [b]) (fp3 := [c]) (fun b hb => by rw [List.mem_singleton.mp hb]; exact t1) (fun b hb => by rw [List.mem_singleton.mp hb]; exact t2) (fun b hb => by rw [List.mem_singleton.mp hb]; exact t3)
        refine ⟨s1.heap.objs.size + 5, [s1.heap.objs.size + 5, s1.heap.objs.size + 3, s1.heap.objs.size + 4, s1.heap.objs.size, s1.heap.objs.size + 1, s1.heap.objs.size + 2], _, _, H1, rfl, I2, turn_z3 a b c _ _ _ _ _ _ b1 b2 b3 S ((lo 0).1) ((lo 1).2.1) ((lo 2).2.2), ⟨hz, hTI, ⟨_, _, _, hTO⟩, itB_new g1, itB_new g2, itB_new g3⟩, fun c hcm => ?_, q⟩
        have hle : s1.heap.objs.size ≤ c := by
          simp only [List.mem_cons, List.not_mem_nil, or_false] at hcm
          rcases hcm with z | z | z | z | z | z <;> rw [z] <;> first
            | exact Nat.le_refl _
            | exact Nat.le_add_right _ _
        exact I1.fpOk hle (I1.hok.fresh hle)
/-! ### as values -/
def seqD : D → Option (List D)
  | .list ds => some ds
  | .tuple ds => some ds
  | _ => none
theorem seq_sqB {X : Cx} {G0 : Hp} {v : V} {d : D} {ds : List D} (r : Rep X.K G0 v d) (h : seqD d = some ds) : ∃ a b vs, v = .ref a ∧ (G0 a = some (.lst vs) ∧ b = true ∨ G0 a = some (.tup vs) ∧ b = false) ∧ RepAll X.K G0 vs ds ∧ ∀ H, Sm G0 H → sqB X.K H a vs b := by
  cases r with
  | lst ha r => cases h; exact ⟨_, true, _, rfl, .inl ⟨ha, rfl⟩, r, fun H s => .inl (.of (s _ _ ha rfl))⟩
  | tup ha r => cases h; exact ⟨_, false, _, rfl, .inr ⟨ha, rfl⟩, r, fun H s => .inl (.of (s _ _ ha rfl))⟩
  | _ => cases h
def enumD (ds : List D) : List D := ds.zipIdx.map fun p => .tuple [.int (p.2 : Nat), p.1]
theorem enumD_len (ds : List D) : (enumD ds).length = ds.length := by simp [enumD]
theorem enumD_at {ds : List D} {i : Nat} {d : D} (h : ds[i]? = some d) : (enumD ds)[i]? = some (.tuple [.int (i : Nat), d]) := by
  simp [enumD, List.getElem?_zipIdx, h]
theorem iter_en {X : Cx} {G0 : Hp} {a : Addr} {b : Bool} {vs : List V} {ds : List D} (hq : ∀ H, Sm G0 H → sqB X.K H a vs b) (r : RepAll X.K G0 vs ds) : IterOk X (ItE X.K a b) G0 (enumD ds) where
  goes := fun i H hi s => ⟨vs, hq H s, by rw [r.length]; simpa [enumD_len] using hi⟩
  stops := fun H s => ⟨vs, hq H s, by rw [r.length, enumD_len]⟩
  yields := fun i g σ H ρ x H' hi s S y => by
    obtain ⟨T, row, e1, hT, e2, v, e3, hv⟩ := y
    subst e1 e2 e3
    obtain ⟨d, hd, rd⟩ := r.get' (hv vs (hq H (smT s S.sub.1)))
    obtain ⟨x2, S2⟩ := S.freeze (o := .tup [.int (i : Nat), v]) hT
    exact ⟨_, _, x2, S2, enumD_at hd, Rep.tup upd_same (.cons (.int _) (.cons ((rd.mono s).mono x2.up) .nil))⟩
def enumI (s : ES) : IS := fun ρ => bnd (s ρ) fun w ρ => match w with
  | .dat d => (match seqD d with
    | some ds => some (.ok (enumD ds) ρ)
    | none => none)
  | _ => none
theorem RepWs.dat1 {X : Cx} {g : Gh} {σ : L2.St} {H₀ H : Hp} {vs : List V} {d : D} (h : RepWs X g σ H₀ H vs [.dat d]) : ∃ v, vs = [v] ∧ Rep X.K g.G v d := by
  cases h with
  | cons r _ t _ => cases t; exact ⟨_, rfl, r⟩
theorem okI_enum {X : Cx} {Wx : WX} {elts : List Expr} {kk : Nat} {tpos : Pos} {a : Expr} {s : ES} {p pos : Pos} (hg : Gl X "enumerate") (hm : X.mg "enumerate" = none) (ha : OkA X Wx [a] (consS s nilS)) (hs : starEach [a] X.env = [(false, eval a X.env)] := by rfl) :
    OkI X Wx (.Tuple elts kk tpos) (.Call (.Name "enumerate" p) [a] [] pos) (enumI s) := by
  obtain ⟨t, p, q⟩ := ha
  refine ⟨_, pi_en hg hm p hs, fun g σ H ρ Q S h => q g σ H ρ _ S ?_⟩
  have h' : PostG X Wx (relI X) g σ H (bnd (consS s nilS ρ) fun ws ρ => match ws with
    | [.dat d] => (match seqD d with
      | some ds => some (.ok (enumD ds) ρ)
      | none => none)
    | _ => none) Q := by
    have e : (bnd (consS s nilS ρ) fun ws ρ => match ws with
      | [.dat d] => (match seqD d with
        | some ds => some (.ok (enumD ds) ρ)
        | none => none)
      | _ => none) = enumI s ρ := by
      unfold enumI
      rw [consS_at]
      rcases s ρ with _ | (⟨w, ρ'⟩ | ⟨c, d, ρ'⟩)
      · rfl
      · simp only [bnd_ok, nilS_at]
        cases w <;> rfl
      · rfl
    rw [e]; exact h
  refine PostG.bind later_I h' ?_
  intro ws ρ1 g1 H1 vs _ e1 S1 r1 h1
  split at h1
  · rename_i d
    split at h1
    · rename_i ds hd
      obtain ⟨v, ev, rv⟩ := r1.dat1
      obtain ⟨a', b, xs, e, _, ra, hq⟩ := seq_sqB rv hd
      subst ev e
      exact ⟨a', b, xs, rfl, hq H1 S1.sub.1, h1 g1 H1 _ (Ext.refl _ _) S1 (iter_en hq ra)⟩
    · exact h1.elim
  · exact h1.elim
def zip2D (xs ys : List D) : List D := (xs.zip ys).map fun p => .tuple [p.1, p.2]
def zip3D (xs ys zs : List D) : List D := (xs.zip (ys.zip zs)).map fun p => .tuple [p.1, p.2.1, p.2.2]
theorem zip2D_len (xs ys : List D) : (zip2D xs ys).length = min xs.length ys.length := by simp [zip2D]
theorem zip3D_len (xs ys zs : List D) : (zip3D xs ys zs).length = min (min xs.length ys.length) zs.length := by simp [zip3D, Nat.min_assoc]
theorem zip2D_at {xs ys : List D} {i : Nat} {d e : D} (h : xs[i]? = some d) (h2 : ys[i]? = some e) : (zip2D xs ys)[i]? = some (.tuple [d, e]) := by
  have z : (xs.zip ys)[i]? = some (d, e) := List.getElem?_zip_eq_some.mpr ⟨h, h2⟩
  simp [zip2D, z]
theorem zip3D_at {xs ys zs : List D} {i : Nat} {d e f : D} (h : xs[i]? = some d) (h2 : ys[i]? = some e) (h3 : zs[i]? = some f) : (zip3D xs ys zs)[i]? = some (.tuple [d, e, f]) := by
  have z : (ys.zip zs)[i]? = some (e, f) := List.getElem?_zip_eq_some.mpr ⟨h2, h3⟩
  have z2 : (xs.zip (ys.zip zs))[i]? = some (d, e, f) := List.getElem?_zip_eq_some.mpr ⟨h, z⟩
  simp [zip3D, z2]
theorem iter_z2 {X : Cx} {G0 : Hp} {a b : Addr} {b1 b2 : Bool} {vs us : List V} {ds es : List D} (hq : ∀ H, Sm G0 H → sqB X.K H a vs b1) (r : RepAll X.K G0 vs ds) (hq2 : ∀ H, Sm G0 H → sqB X.K H b us b2) (r2 : RepAll X.K G0 us es) : IterOk X (ItZ2 X.K a b b1 b2) G0 (zip2D ds es) where
  goes := fun i H hi s => by
    rw [zip2D_len] at hi
    exact ⟨vs, us, hq H s, hq2 H s, by rw [r.length]; omega, by rw [r2.length]; omega⟩
  stops := fun H s => ⟨vs, us, hq H s, hq2 H s, by rw [r.length, r2.length, zip2D_len]⟩
  yields := fun i g σ H ρ x H' hi s S y => by
    obtain ⟨T, row, e1, hT, e2, v, u, e3, hv, hu⟩ := y
    subst e1 e2 e3
    obtain ⟨d, hd, rd⟩ := r.get' (hv vs (hq H (smT s S.sub.1)))
    obtain ⟨d2, hd2, rd2⟩ := r2.get' (hu us (hq2 H (smT s S.sub.1)))
    obtain ⟨x2, S2⟩ := S.freeze (o := .tup [v, u]) hT
    exact ⟨_, _, x2, S2, zip2D_at hd hd2, Rep.tup upd_same (.cons ((rd.mono s).mono x2.up) (.cons ((rd2.mono s).mono x2.up) .nil))⟩
theorem iter_z3 {X : Cx} {G0 : Hp} {a b c : Addr} {b1 b2 b3 : Bool} {vs us ts : List V} {ds es fs : List D} (hq : ∀ H, Sm G0 H → sqB X.K H a vs b1) (r : RepAll X.K G0 vs ds) (hq2 : ∀ H, Sm G0 H → sqB X.K H b us b2) (r2 : RepAll X.K G0 us es)
    (hq3 : ∀ H, Sm G0 H → sqB X.K H c ts b3) (r3 : RepAll X.K G0 ts fs) : IterOk X (ItZ3 X.K a b c b1 b2 b3) G0 (zip3D ds es fs) where
  goes := fun i H hi s => by
    rw [zip3D_len] at hi
    exact ⟨vs, us, ts, hq H s, hq2 H s, hq3 H s, by rw [r.length]; omega, by rw [r2.length]; omega, by rw [r3.length]; omega⟩
  stops := fun H s => ⟨vs, us, ts, hq H s, hq2 H s, hq3 H s, by rw [r.length, r2.length, r3.length, zip3D_len]⟩
  yields := fun i g σ H ρ x H' hi s S y => by
    obtain ⟨T, row, e1, hT, e2, v, u, t, e3, hv, hu, ht⟩ := y
    subst e1 e2 e3
    obtain ⟨d, hd, rd⟩ := r.get' (hv vs (hq H (smT s S.sub.1)))
    obtain ⟨d2, hd2, rd2⟩ := r2.get' (hu us (hq2 H (smT s S.sub.1)))
    obtain ⟨d3, hd3, rd3⟩ := r3.get' (ht ts (hq3 H (smT s S.sub.1)))
    obtain ⟨x2, S2⟩ := S.freeze (o := .tup [v, u, t]) hT
    exact ⟨_, _, x2, S2, zip3D_at hd hd2 hd3, Rep.tup upd_same (.cons ((rd.mono s).mono x2.up) (.cons ((rd2.mono s).mono x2.up) (.cons ((rd3.mono s).mono x2.up) .nil)))⟩
def zip2F (ws : List W) (ρ : Env') : Option (R (List D)) := match ws with
  | [.dat d, .dat e] => (match seqD d with
    | some ds => (match seqD e with
      | some es => some (.ok (zip2D ds es) ρ)
      | none => none)
    | none => none)
  | _ => none
def zip3F (ws : List W) (ρ : Env') : Option (R (List D)) := match ws with
  | [.dat d, .dat e, .dat f] => (match seqD d with
    | some ds => (match seqD e with
      | some es => (match seqD f with
        | some fs => some (.ok (zip3D ds es fs) ρ)
        | none => none)
      | none => none)
    | none => none)
  | _ => none
theorem RepWs.dat2 {X : Cx} {g : Gh} {σ : L2.St} {H₀ H : Hp} {vs : List V} {d e : D} (h : RepWs X g σ H₀ H vs [.dat d, .dat e]) : ∃ v u, vs = [v, u] ∧ Rep X.K g.G v d ∧ Rep X.K g.G u e := by
  cases h with
  | cons r _ t _ =>
    obtain ⟨u, e2, r2⟩ := t.dat1
    subst e2
    exact ⟨_, _, rfl, r, r2⟩
theorem RepWs.dat3 {X : Cx} {g : Gh} {σ : L2.St} {H₀ H : Hp} {vs : List V} {d e f : D} (h : RepWs X g σ H₀ H vs [.dat d, .dat e, .dat f]) : ∃ v u t, vs = [v, u, t] ∧ Rep X.K g.G v d ∧ Rep X.K g.G u e ∧ Rep X.K g.G t f := by
  cases h with
  | cons r _ t _ =>
    obtain ⟨u, t2, e2, r2, r3⟩ := t.dat2
    subst e2
    exact ⟨_, _, _, rfl, r, r2, r3⟩
theorem okI_zip2 {X : Cx} {Wx : WX} {elts : List Expr} {kk : Nat} {tpos : Pos} {a b : Expr} {sa : AS} {p pos : Pos} (hg : Gl X "zip") (hm : X.mg "zip" = none) (ha : OkA X Wx [a, b] sa)
    (hs : starEach [a, b] X.env = (false, eval a X.env) :: starEach [b] X.env := by rfl) (hpl : (backTo pos (starEach [b] X.env)).any (·.1) = false := by rfl) :
    OkI X Wx (.Tuple elts kk tpos) (.Call (.Name "zip" p) [a, b] [] pos) (rngI zip2F sa) := by
  obtain ⟨t, p, q⟩ := ha
  refine ⟨_, pi_z2 hg hm p hs hpl, fun g σ H ρ Q S h => q g σ H ρ _ S (PostG.bind later_I h ?_)⟩
  intro ws ρ1 g1 H1 vs _ e1 S1 r1 h1
  unfold zip2F at h1
  split at h1
  · rename_i d e
    split at h1
    · rename_i ds hd
      split at h1
      · rename_i es he
        obtain ⟨v, u, ev, rv, ru⟩ := r1.dat2
        obtain ⟨a', b', xs, e, _, ra, hq⟩ := seq_sqB rv hd
        obtain ⟨a2, b2, ys, e2, _, ra2, hq2⟩ := seq_sqB ru he
        subst ev e e2
        exact ⟨a', a2, b', b2, xs, ys, rfl, hq H1 S1.sub.1, hq2 H1 S1.sub.1, h1 g1 H1 _ (Ext.refl _ _) S1 (iter_z2 hq ra hq2 ra2)⟩
      · exact h1.elim
    · exact h1.elim
  · exact h1.elim
theorem okI_zip3 {X : Cx} {Wx : WX} {elts : List Expr} {kk : Nat} {tpos : Pos} {a b c : Expr} {sa : AS} {p pos : Pos} (hg : Gl X "zip") (hm : X.mg "zip" = none) (ha : OkA X Wx [a, b, c] sa)
    (hs : starEach [a, b, c] X.env = (false, eval a X.env) :: starEach [b, c] X.env := by rfl) (hpl : (backTo pos (starEach [b, c] X.env)).any (·.1) = false := by rfl) :
    OkI X Wx (.Tuple elts kk tpos) (.Call (.Name "zip" p) [a, b, c] [] pos) (rngI zip3F sa) := by
  obtain ⟨t, p, q⟩ := ha
  refine ⟨_, pi_z3 hg hm p hs hpl, fun g σ H ρ Q S h => q g σ H ρ _ S (PostG.bind later_I h ?_)⟩
  intro ws ρ1 g1 H1 vs _ e1 S1 r1 h1
  unfold zip3F at h1
  split at h1
  · rename_i d e f
    split at h1
    · rename_i ds hd
      split at h1
      · rename_i es he
        split at h1
        · rename_i fs hf
          obtain ⟨v, u, t, ev, rv, ru, rt⟩ := r1.dat3
          obtain ⟨a', b', xs, e, _, ra, hq⟩ := seq_sqB rv hd
          obtain ⟨a2, b2, ys, e2, _, ra2, hq2⟩ := seq_sqB ru he
          obtain ⟨a3, b3, zs, e3, _, ra3, hq3⟩ := seq_sqB rt hf
          subst ev e e2 e3
          exact ⟨a', a2, a3, b', b2, b3, xs, ys, zs, rfl, hq H1 S1.sub.1, hq2 H1 S1.sub.1, hq3 H1 S1.sub.1, h1 g1 H1 _ (Ext.refl _ _) S1 (iter_z3 hq ra hq2 ra2 hq3 ra3)⟩
        · exact h1.elim
      · exact h1.elim
    · exact h1.elim
  · exact h1.elim
end Py

namespace Py
open PySem PySem.Spec PyProof.Rows L2
/-! ### {k: v, ..} with written keys, as data -/
section
variable {X : Cx} {Wx : WX}
def OkP (X : Cx) (Wx : WX) (pos : Pos) (ks : List (Option Expr)) (vs : List Expr) (kk : List Key) (s : AS) : Prop :=
  ∃ trs, PPs X pos ks vs trs ∧ ∀ g σ H ρ (Q : List (V × V) → Hp → Prop), SR X g σ H ρ → PostA X Wx g σ H (s ρ) (fun us H' => us.length = kk.length → Q ((kk.map kV).zip us) H') → tPairs trs σ H Q
theorem okP_nil {pos : Pos} : OkP X Wx pos [] [] [] nilS :=
  ⟨[], pps_nil, fun g σ H ρ Q S h => h g H [] (Ext.refl _ _) S .nil rfl⟩
theorem okP_cons {pos : Pos} {ke v : Expr} {ks : List (Option Expr)} {vs : List Expr} {k : Key} {kk : List Key} {s : ES} {r : AS} (hk : PE X ke (tC (kV k))) (he : OkE X Wx v s) (hr : OkP X Wx pos ks vs kk r) : OkP X Wx pos (some ke :: ks) (v :: vs) (k :: kk) (consS s r) := by
  obtain ⟨t, p, q⟩ := he
  obtain ⟨trs, p', q'⟩ := hr
  refine ⟨_, pps_cons hk p p', fun g σ H ρ Q S h => ?_⟩
  show t σ H fun y H2 => tPairs trs σ H2 fun ps H3 => Q ((kV k, y) :: ps) H3
  refine q g σ H ρ _ S (PostG.at (Ext.refl _ _) h ?_)
  intro w ρ1 g1 H1 x _ e1 S1 r1 h1
  refine q' g1 σ H1 ρ1 _ S1 (PostG.at e1 h1 ?_)
  intro ws ρ2 g2 H2 xs _ e2 S2 r2 h2 hl
  refine h2 g2 H2 (x :: xs) (e1.trans e2) S2 (.cons (r1.1.ext e2) r1.2 (later_A _ _ _ _ _ _ _ _ e1 r2) fun hf i u z hu hz hzf e => ?_) (by simp [hl])
  cases w with
  | fresh c =>
    obtain ⟨a, ex, n, o, q⟩ := r1.1
    obtain ⟨y, hy⟩ := q.some
    have hn := (RepWs.get r2 hu hz).2 hzf a (by rw [← e, ex])
    rw [hn] at hy
    cases hy
  | _ => cases hf
theorem okK_int {i : Int} {j : Nat} {pos : Pos} : PE X (.Constant (.int i) j pos) (tC (kV (.inl i))) := pe_int
theorem okK_str {x : Str} {j : Nat} {pos : Pos} : PE X (.Constant (.str x) j pos) (tC (kV (.inr x))) := pe_str
def ddS (kk : List Key) (sa : AS) : ES := fun ρ => bnd (sa ρ) fun ws ρ => match datsW ws with
  | some ds => if ds.length = kk.length then some (.ok (.dat (.dict ((kk.map keyD).zip ds))) ρ) else none
  | none => none
theorem putK_new : ∀ (l : List (Key × V)) (k : Key) (v : V), k ∉ l.map (·.1) → putK l k v = l ++ [(k, v)] := by
  intro l k v h
  have : ∀ p ∈ l, ¬ p.1 = k := fun p hp e => h (List.mem_map.mpr ⟨p, hp, e⟩)
  unfold putK
  rw [if_neg]
  intro z
  obtain ⟨p, hp, e⟩ := List.any_eq_true.mp z
  exact this p hp (by simpa using e)
theorem mergeK_new : ∀ (more l : List (Key × V)), ((l ++ more).map (·.1)).Nodup → mergeK l more = l ++ more
  | [], l, _ => by simp [mergeK]
  | p :: more, l, h => by
    have hp : p.1 ∉ l.map (·.1) := fun z => by
      rw [List.map_append, List.nodup_append] at h
      exact h.2.2 _ z _ (by simp) rfl
    show mergeK (putK l p.1 p.2) more = _
    rw [putK_new l p.1 p.2 hp, mergeK_new more _ (by simpa using h)]
    simp
theorem okDD {pos : Pos} {ks : List (Option Expr)} {vs : List Expr} {kk : List Key} {sa : AS} (h : OkP X Wx pos ks vs kk sa) (hall : ks.all (·.isSome) = true := by rfl) (hl : ks.length = vs.length := by rfl) (h0 : ks ≠ [] := by simp) (h15 : ks.length ≤ 15 := by decide)
    (hn : kk.Nodup := by decide) (hkl : kk.length ≤ 15 := by decide) : OkE X Wx (.Dict ks vs pos) (ddS kk sa) := by
  obtain ⟨trs, p, q⟩ := h
  refine ⟨_, pe_disp p hall hl h0 h15, fun g σ H ρ Q S h => ?_⟩
  intro a ha
  obtain ⟨x1, S1⟩ := S.lay (o := .dK []) ha
  refine q g σ _ ρ _ S1 (PostG.at x1 h ?_)
  intro ws ρ1 g1 H1 us _ e1 S2 r1 h1 hlen
  have ga : g.G a = none := S.sub.free ha
  have oa : ¬ g.O a := fun z => S.ot a z ha
  obtain ⟨k1, k2, k3⟩ := e1.fr a _ upd_same ga oa
  cases e : datsW ws with
  | none => rw [e] at h1; exact h1.elim
  | some ds =>
    rw [e] at h1
    have r := RepWs.dats r1 e
    by_cases hz : ds.length = kk.length
    · simp only [hz, if_true] at h1
      have hkv : ((kk.zip us).map (·.1)) = kk := by rw [List.map_fst_zip]; omega
      have hvv : ((kk.zip us).map (·.2)) = us := by rw [List.map_snd_zip]; omega
      refine ⟨k1, kk.zip us, ?_, by rw [List.length_zip]; omega, ?_⟩
      · rw [List.zip_map_left]; rfl
      · rw [mergeK_new _ [] (by simpa [hkv] using hn), List.nil_append]
        have E := x1.trans e1
        have E2 : Ext g H g1 (upd H1 a (.dK (kk.zip us))) := ⟨E.up, fun b y hb n ob => by
            obtain ⟨p1, p2, p3⟩ := E.fr b y hb n ob
            exact ⟨by rw [upd_ne (ne_of_none hb ha)]; exact p1, p2, p3⟩, fun b hb => by
            by_cases hba : b = a
            · subst hba; exact absurd ha hb
            · rw [upd_ne hba]; exact E.al b hb, E.bb, E.be⟩
        have S3 := SR.poke (o := .dK (kk.zip us)) S2 k2 k3 (by rw [k1]; simp)
        obtain ⟨x4, S4⟩ := SR.freezeOld E2 S3 upd_same ha k2 k3
        have up : Same g1.G (upd g1.G a (.dK (kk.zip us))) := fun b y h => by rw [upd_ne (ne_of_none h k2)]; exact h
        refine h1 _ _ (.ref a) x4 S4 ⟨Rep.dic (ks := kk.zip us) upd_same ?_ ?_, FreshIn.dat⟩
        · rw [List.map_fst_zip (by simp; omega), show (kk.zip us).map (fun p => keyD p.1) = ((kk.zip us).map (·.1)).map keyD by simp [List.map_map, Function.comp_def], hkv]
        · rw [hvv, List.map_snd_zip (by simp; omega)]
          exact r.mono up
    · simp only [hz, if_false] at h1
      exact h1.elim
end
end Py

namespace Py
open PySem PySem.Spec PyProof.Rows L2
/-! ### texts: upper(), str(n) -/
section
variable {X : Cx} {Wx : WX}
def upF : D → Option D
  | .str x => if x.length ≤ 5592405 then some (.str (Txt.upper x)) else none
  | _ => none
theorem okUpper {o : Expr} {s : ES} {apos pos : Pos} (ho : OkE X Wx o s) (hbase : attributeBase o "upper" X.env (eval o X.env) = eval o X.env := by rfl) (hline : (apos.endLine == pos.line) = true := by rfl) :
    OkE X Wx (.Call (.Attribute o "upper" apos) [] [] pos) (unS (d1 upF) s) := by
  obtain ⟨t, p, q⟩ := ho
  refine ⟨_, pe_upper p hbase hline, fun g σ H ρ Q S h => q g σ H ρ _ S (PostG.bind later_E h ?_)⟩
  intro w ρ1 g1 H1 x _ e1 S1 r1 h1
  rw [d1_at] at h1
  cases ev : view ρ1 w with
  | none => rw [ev] at h1; exact h1.elim
  | some d =>
    rw [ev] at h1
    cases ef : upF d with
    | none => simp only [ef] at h1; exact h1.elim
    | some d' =>
      simp only [ef] at h1
      have rv := view_rep S1 r1.1 ev
      cases rv with
      | str a =>
        unfold upF at ef
        dsimp only at ef
        by_cases hz : a.length ≤ 5592405
        · rw [if_pos hz] at ef
          cases ef
          exact ⟨⟨_, rfl⟩, a, rfl, rfl, hz, PostE.dat S1 h1 (.str _)⟩
        · rw [if_neg hz] at ef
          cases ef
      | _ => cases ef
def strF : List D → Option D
  | [.int i] => if i.natAbs.log2 < 1920 then some (.str (toString i : String)) else none
  | _ => none
theorem sc_strI : SemCl X Wx (.type "str") (cD strF) := ⟨_, call_str_int, semC_d fun G H xs ds d Q e rs hf k _ => by
  unfold strF at hf
  split at hf
  · split at hf
    · rename_i i hz
      cases hf
      cases rs with
      | cons r t => cases t; cases r; exact ⟨_, rfl, hz, k _ (.str _)⟩
    · cases hf
  · cases hf⟩
end
end Py

namespace Py
open PySem PySem.Spec PyProof.Rows L2
/-! ### tuples that hold objects -/
abbrev ItT := Sum D (Str × List (Str × Option D))
def itW : W → Option ItT
  | .dat d => some (.inl d)
  | .obj c fs => some (.inr (c, fs))
  | _ => none
def itsW : List W → Option (List ItT)
  | [] => some []
  | w :: ws => match itW w with
    | some x => (match itsW ws with
      | some xs => some (x :: xs)
      | none => none)
    | none => none
def ofIt : ItT → W
  | .inl d => .dat d
  | .inr (c, fs) => .obj c fs
section
variable {X : Cx} {Wx : WX} {g : Gh} {σ : L2.St} {H₀ H : Hp}
theorem RepWs.its : ∀ {vs : List V} {ws : List W} {xs : List ItT}, RepWs X g σ H₀ H vs ws → itsW ws = some xs → Paired (ItR X g.G) vs xs
  | _, _, _, .nil, h => by cases h; exact .nil
  | _, _, _, .cons (w := w) (ws := ws) r _ t _, h => by
    unfold itsW at h
    cases w with
    | dat d =>
      cases e : itsW ws with
      | none => simp only [itW, e] at h; cases h
      | some es => simp only [itW, e] at h; cases h; exact .cons r (RepWs.its t e)
    | obj c fs =>
      cases e : itsW ws with
      | none => simp only [itW, e] at h; cases h
      | some es => simp only [itW, e] at h; cases h; exact .cons r (RepWs.its t e)
    | _ => cases h
theorem RepWs.ofIts : ∀ {vs : List V} {xs : List ItT}, Paired (ItR X g.G) vs xs → RepWs X g σ H₀ H vs (xs.map ofIt)
  | _, _, .nil => .nil
  | _, x :: _, .cons h r => by
    cases x with
    | inl d => exact .cons (w := .dat d) h FreshIn.dat (RepWs.ofIts r) fun z => by cases z
    | inr p => exact .cons (w := .obj p.1 p.2) h FreshIn.obj (RepWs.ofIts r) fun z => by cases z
theorem ItR.mono {G G' : Hp} {v : V} {x : ItT} (e : Same G G') (q : ItR X G v x) : ItR X G' v x := by
  cases x with
  | inl d => exact Rep.mono e q
  | inr p => obtain ⟨a, C, dx, vfs, h0, h1, h2, h3⟩ := q; exact ⟨a, C, dx, vfs, h0, h1, e _ _ h2, Paired.mono h3 fun _ _ q => q.mono e⟩
theorem Paired.len {α β : Type} {F : α → β → Prop} : ∀ {l : List α} {m : List β}, Paired F l m → l.length = m.length
  | _, _, .nil => rfl
  | _, _, .cons _ t => by simp [Paired.len t]
def tupWF (ws : List W) (ρ : Env') : Option (R W) := match datsW ws with
  | some ds => if ds.length ≤ lim then some (.ok (.dat (.tuple ds)) ρ) else none
  | none => match itsW ws with
    | some xs => if xs.length ≤ lim then some (.ok (.scr (.tp xs)) ρ) else none
    | none => none
theorem okTupW {es : List Expr} {sa : AS} {k : Nat} {pos : Pos} (ha : OkA X Wx es sa) : OkE X Wx (.Tuple es k pos) (callS tupWF sa) := by
  obtain ⟨t, p, q⟩ := ha
  refine ⟨_, pe_tup p, fun g σ H ρ Q S h => q g σ H ρ _ S (PostG.bind later_E h ?_)⟩
  intro ws ρ1 g1 H1 vs _ e1 S1 r1 h1
  unfold tupWF at h1
  cases e : datsW ws with
  | none =>
    simp only [e] at h1
    cases e' : itsW ws with
    | none => simp only [e'] at h1; exact h1.elim
    | some xs =>
      simp only [e'] at h1
      have r := RepWs.its r1 e'
      have hl := Paired.len r
      by_cases hz : xs.length ≤ lim
      · simp only [hz, if_true] at h1
        refine ⟨by rw [hl, ← lim_eq]; exact hz, fun p hp => ?_⟩
        obtain ⟨x, S2⟩ := S1.freeze (o := .tup vs) hp
        exact h1 _ _ (.ref p) x S2 ⟨⟨p, vs, rfl, upd_same, Paired.mono r fun _ _ q => ItR.mono x.up q⟩, FreshIn.scr⟩
      · simp only [hz, if_false] at h1
        exact h1.elim
  | some ds =>
    rw [e] at h1
    have r := RepWs.dats r1 e
    have hl := r.length
    by_cases hz : ds.length ≤ lim
    · simp only [hz, if_true] at h1
      exact ⟨by rw [hl, ← lim_eq]; exact hz, fun p hp => PostE.newTup S1 h1 r hp⟩
    · simp only [hz, if_false] at h1
      exact h1.elim
def itemsW : W → Option (List W)
  | .dat (.tuple ds) => some (ds.map W.dat)
  | .scr (.tp xs) => some (xs.map ofIt)
  | _ => none
def asgTS (is : List Nat) (s : ES) : SS := fun ρ => toS (s ρ) fun w ρ => match itemsW w with
  | some ws => (match storeAll (is.map fun i => (i, false)) ws ρ with
    | some ρ' => some (.nx ρ')
    | none => none)
  | none => none
theorem okAsgT {ts : List Expr} {k : Nat} {p1 pos : Pos} {e : Expr} {s : ES} {is : List Nat} (hc : X.calm = true) (he : OkE X Wx e s) (hg : PGs X ts (gNames is))
    (hn : (assignEach ts X.env).length = is.length := by rfl) (hst : (assignEach ts X.env).findIdx? (·.1) = none := by rfl)
    (hs : swapsWithSole [.Tuple ts k p1] e pos.line X.env = pure false := by rfl) (hw : swappedStores [.Tuple ts k p1] e X.env = pure none := by rfl)
    (h1 : (assignEach [.Tuple ts k p1] X.env).map (·.2) = [assign (.Tuple ts k p1) X.env] := by rfl) : OkS X Wx (.Assign [.Tuple ts k p1] e pos) (asgTS is s) := by
  obtain ⟨t, p, q⟩ := he
  refine ⟨_, ps_asg p (pg_tup hc hg hn hst) hs hw h1, fun g σ H ρ E S h => q g σ H ρ _ S (PostS.bind h ?_)⟩
  intro w ρ1 g1 H1 x _ e1 S1 r1 h1
  have fin : ∀ {a : Addr} {xs : List V} {ws : List W}, x = .ref a → SqT X.K H1 a xs → RepWs X g1 σ H1 H1 xs ws → xs.length = ws.length → PostS X Wx g H (match storeAll (is.map fun i => (i, false)) ws ρ1 with
      | some ρ' => some (.nx ρ')
      | none => none) E → ∃ a xs, x = .ref a ∧ SqT X.K H1 a xs ∧ xs.length = is.length ∧ gNames is xs σ H1 E.nx := by
    intro a xs ws ex hq rw hl hp
    cases e2 : storeAll (is.map fun i => (i, false)) ws ρ1 with
    | none => rw [e2] at hp; exact hp.elim
    | some ρ2 =>
      rw [e2] at hp
      have hl2 := storeAll_len e2
      simp only [List.length_map] at hl2
      obtain ⟨g2, x2, S2⟩ := SR.storeAll (σ0 := σ) S1.ea (Ext.refl g1 H1) S1 rw e2
      refine ⟨a, xs, ex, hq, by omega, gNames_ok (by omega) ?_⟩
      have em : (is.map fun i => (i, false)).map (·.1) = is := by simp [List.map_map, Function.comp_def]
      rw [em] at S2
      exact hp g2 _ H1 (e1.trans x2) S2
  cases w with
  | dat d =>
    cases d with
    | tuple ds =>
      have rr : Rep X.K g1.G x (.tuple ds) := r1.1
      cases rr with
      | tup ha r => exact fin rfl (.of (S1.sub.1 _ _ ha rfl)) (RepWs.ofAll r) (by rw [r.length]; simp) h1
    | _ => exact h1.elim
  | scr y =>
    cases y with
    | sc ns => exact h1.elim
    | rg j => exact h1.elim
    | tp xs =>
      obtain ⟨a, vs, ex, ha, r⟩ := r1.1
      exact fin ex (.of (S1.sub.1 _ _ ha rfl)) (RepWs.ofIts r) (by rw [Paired.len r]; simp) h1
  | _ => exact h1.elim
end
@[simp] theorem tupWF_dat {ws : List W} {ds : List D} (ρ : Env') (h : datsW ws = some ds) : tupWF ws ρ = if ds.length ≤ lim then some (.ok (.dat (.tuple ds)) ρ) else none := by
  unfold tupWF; rw [h]
theorem tupWF_its {ws : List W} {xs : List ItT} (ρ : Env') (h : datsW ws = none) (h2 : itsW ws = some xs) : tupWF ws ρ = if xs.length ≤ lim then some (.ok (.scr (.tp xs)) ρ) else none := by
  unfold tupWF; rw [h, h2]
@[simp] theorem itemsW_tup (ds : List D) : itemsW (.dat (.tuple ds)) = some (ds.map W.dat) := rfl
@[simp] theorem itemsW_tp (xs : List ItT) : itemsW (.scr (.tp xs)) = some (xs.map ofIt) := rfl
@[simp] theorem ofIt_inl (d : D) : ofIt (.inl d) = .dat d := rfl
@[simp] theorem ofIt_inr (c : Str) (fs : List (Str × Option D)) : ofIt (.inr (c, fs)) = .obj c fs := rfl
@[simp] theorem hardW_scr (x : Frz) : hardW (.scr x) = some (.scr x) := rfl
@[simp] theorem retW_scr (x : Frz) (ρ : Env') : retW (.scr x) ρ = some (.ret (.scr x) ρ) := rfl
@[simp] theorem slotF_scr (x : Frz) : slotFor false (.scr x) = some (.val (.scr x)) := rfl
@[simp] theorem asgTS_at (is : List Nat) (s : ES) (ρ : Env') : asgTS is s ρ = toS (s ρ) fun w ρ => match itemsW w with
  | some ws => (match storeAll (is.map fun i => (i, false)) ws ρ with
    | some ρ' => some (.nx ρ')
    | none => none)
  | none => none := rfl
end Py

namespace Py
open PySem PySem.Spec PyProof.Rows L2
/-! ### max, min, sum of a tuple of ints -/
section
variable {prog : Program} {w : World} {A : Around} {E : Value → Shared → Prop} {s : Shared} {l : Addr} {xs : Array (Int × Tok)}
theorem iter_intTup {Q : Value → Shared → Prop} (hl : s.heap.IsTuple l (intItems xs))
    (h : ∀ s₂ : Shared, s₂ = { s with heap := s.heap.push { cls := .type "tuple_iterator", data := .fields #[.ref l, .int 0 0] } } →
      (s₂.heap.IsTupleIter s.heap.objs.size l 0 ∧ s₂.heap.IsTuple l (intItems xs)) → (∀ b ∈ [s.heap.objs.size, l], b < s₂.heap.objs.size) → l ≠ s.heap.objs.size → Q (.ref s.heap.objs.size) s₂) :
    wpAny (model prog w) A (pyIter (.ref l)) Q E s := by
  have hlt : l < s.heap.objs.size := by obtain ⟨_, e, _⟩ := hl; exact Heap.lt_size e
  refine wpAny_pyIter_tuple hl (h _ rfl ⟨⟨_, Heap.get?_push_size _ rfl, rfl, rfl⟩, hl.push _⟩ (fun b hb => ?_) (Nat.ne_of_lt hlt))
  show b < (s.heap.push _).objs.size
  rw [Heap.size_push]
  rcases List.mem_cons.mp hb with rfl | hb
  · exact Nat.lt_succ_self _
  · rcases List.mem_cons.mp hb with rfl | hb
    · exact Nat.lt_succ_of_lt hlt
    · cases hb
theorem old_keptT {h' : Heap} (hk : ∀ b o, b ∉ [s.heap.objs.size] → (s.heap.push { cls := .type "tuple_iterator", data := .fields #[.ref l, .int 0 0] }).get? b = some o → h'.get? b = some o) :
    ∀ b o, s.heap.get? b = some o → h'.get? b = some o := fun b o e => by
  refine hk b o (fun hm => ?_) (Heap.get?_push_of_some _ e)
  rcases List.mem_cons.mp hm with e1 | hm
  · exact absurd (e1 ▸ Heap.lt_size e) (Nat.lt_irrefl _)
  · cases hm
theorem max_intTup {Q : Value → Shared → Prop} (hh : A.handled = none) (hl : s.heap.IsTuple l (intItems xs)) (hne : 0 < xs.size)
    (h : ∀ v h' tk, (intItems xs)[argBest (fun i j => decide (numAt xs i > numAt xs j)) (xs.size - 1)]? = some v → (∀ b o, s.heap.get? b = some o → h'.get? b = some o) → Q v { s with heap := h', toks := tk }) :
    wpAny (model prog w) A (call (.builtin "max") [.ref l]) Q E s := by
  refine call_max_walk (iter_intTup hl fun s₂ e st hfp hlI => ?_)
  subst e
  refine ⟨_, _, _, _, _, _, _, rfl, Walks.tuple (A := A.in1) hh _ l hlI (intItems xs), st, hfp, by simpa [intItems] using hne, CmpOf.ints_gt (numAt xs) (fun _ _ => intItems_at), fun v h' tk hP hk => ?_⟩
  exact h v h' tk (by simpa [intItems] using hP) (old_keptT hk)
theorem min_intTup {Q : Value → Shared → Prop} (hh : A.handled = none) (hl : s.heap.IsTuple l (intItems xs)) (hne : 0 < xs.size)
    (h : ∀ v h' tk, (intItems xs)[argBest (fun i j => decide (numAt xs i < numAt xs j)) (xs.size - 1)]? = some v → (∀ b o, s.heap.get? b = some o → h'.get? b = some o) → Q v { s with heap := h', toks := tk }) :
    wpAny (model prog w) A (call (.builtin "min") [.ref l]) Q E s := by
  refine call_min_walk (iter_intTup hl fun s₂ e st hfp hlI => ?_)
  subst e
  refine ⟨_, _, _, _, _, _, _, rfl, Walks.tuple (A := A.in1) hh _ l hlI (intItems xs), st, hfp, by simpa [intItems] using hne, CmpOf.ints_lt (numAt xs) (fun _ _ => intItems_at), fun v h' tk hP hk => ?_⟩
  exact h v h' tk (by simpa [intItems] using hP) (old_keptT hk)
theorem sum_intTup {Q : Value → Shared → Prop} (hh : A.handled = none) (hl : s.heap.IsTuple l (intItems xs))
    (h : ∀ h' tk t', (∀ b o, s.heap.get? b = some o → h'.get? b = some o) → Q (.int (preSum (numAt xs) xs.size) t') { s with heap := h', toks := tk }) :
    wpAny (model prog w) A (call (.builtin "sum") [.ref l]) Q E s := by
  refine call_sum_walkG (iter_intTup hl fun s₂ e st hfp hlI => ?_)
  subst e
  refine ⟨_, _, _, _, _, _, numAt xs, rfl, Walks.tuple (A := A.in1) hh _ l hlI (intItems xs), st, hfp, (fun _ _ => intItems_at), fun h' tk t' hk => ?_⟩
  have := h h' tk t' (old_keptT hk)
  simpa [intItems] using this
variable {its : List Value} {ns : List Int}
theorem sum_rawT {Q : Value → Shared → Prop} (hh : A.handled = none) (hl : s.heap.IsTuple l its.toArray) (hi : IntsAre its ns)
    (h : ∀ h' tk t', (∀ b o, s.heap.get? b = some o → h'.get? b = some o) → Q (.int ns.sum t') { s with heap := h', toks := tk }) : wpAny (model prog w) A (call (.builtin "sum") [.ref l]) Q E s := by
  obtain ⟨xs, e⟩ := hi.allInts.items
  have hn : numsOf (intItems xs).toList = ns := by rw [← e]; exact hi.numsOf
  rw [nums_intItems] at hn
  rw [e] at hl
  refine sum_intTup hh hl fun h' tk t' hk => ?_
  have := h h' tk t' hk
  rw [preSum_eq, List.take_of_length_le (by simp), hn]; exact this
theorem max_rawT {Q : Value → Shared → Prop} (hh : A.handled = none) (hl : s.heap.IsTuple l its.toArray) (hi : IntsAre its ns) (hne : 0 < ns.length)
    (h : ∀ h' tk M t', (∀ b o, s.heap.get? b = some o → h'.get? b = some o) → M ∈ ns → (∀ a, a ∈ ns → a ≤ M) → Q (.int M t') { s with heap := h', toks := tk }) : wpAny (model prog w) A (call (.builtin "max") [.ref l]) Q E s := by
  obtain ⟨xs, e⟩ := hi.allInts.items
  have hn : numsOf (intItems xs).toList = ns := by rw [← e]; exact hi.numsOf
  rw [nums_intItems] at hn
  subst hn
  rw [e] at hl
  have hsz : 0 < xs.size := by simpa using hne
  refine max_intTup hh hl hsz fun v h' tk hv hk => ?_
  obtain ⟨t, rfl⟩ := intItems_at hv
  obtain ⟨h1, h2⟩ := argBest_gt (numAt xs) (xs.size - 1)
  refine h h' tk _ t hk ?_ fun a ha => ?_
  · rw [numAt_eq]; exact PySem.getD_mem (by rw [List.length_map, Array.length_toList]; omega)
  · obtain ⟨j, hj, rfl⟩ := mem_getD ha
    rw [List.length_map, Array.length_toList] at hj
    rw [← numAt_eq]; exact h2 j (by omega)
theorem min_rawT {Q : Value → Shared → Prop} (hh : A.handled = none) (hl : s.heap.IsTuple l its.toArray) (hi : IntsAre its ns) (hne : 0 < ns.length)
    (h : ∀ h' tk M t', (∀ b o, s.heap.get? b = some o → h'.get? b = some o) → M ∈ ns → (∀ a, a ∈ ns → M ≤ a) → Q (.int M t') { s with heap := h', toks := tk }) : wpAny (model prog w) A (call (.builtin "min") [.ref l]) Q E s := by
  obtain ⟨xs, e⟩ := hi.allInts.items
  have hn : numsOf (intItems xs).toList = ns := by rw [← e]; exact hi.numsOf
  rw [nums_intItems] at hn
  subst hn
  rw [e] at hl
  have hsz : 0 < xs.size := by simpa using hne
  refine min_intTup hh hl hsz fun v h' tk hv hk => ?_
  obtain ⟨t, rfl⟩ := intItems_at hv
  obtain ⟨h1, h2⟩ := argBest_lt (numAt xs) (xs.size - 1)
  refine h h' tk _ t hk ?_ fun a ha => ?_
  · rw [numAt_eq]; exact PySem.getD_mem (by rw [List.length_map, Array.length_toList]; omega)
  · obtain ⟨j, hj, rfl⟩ := mem_getD ha
    rw [List.length_map, Array.length_toList] at hj
    rw [← numAt_eq]; exact h2 j (by omega)
end
section
variable {X : Cx} {Wx : WX}
def rSumT (K : PySem.W.Frag) : List V → Hp → VK → Prop := fun vs H Q => ∃ (a : Addr) (ns : List Int), vs = [V.ref a] ∧ SqT K H a (ns.map V.int) ∧ Q (.int ns.sum) H
def rMaxT (K : PySem.W.Frag) : List V → Hp → VK → Prop := fun vs H Q => ∃ (a : Addr) (ns : List Int), vs = [V.ref a] ∧ SqT K H a (ns.map V.int) ∧ 0 < ns.length ∧ ∀ m, m ∈ ns → (∀ y, y ∈ ns → y ≤ m) → Q (.int m) H
def rMinT (K : PySem.W.Frag) : List V → Hp → VK → Prop := fun vs H Q => ∃ (a : Addr) (ns : List Int), vs = [V.ref a] ∧ SqT K H a (ns.map V.int) ∧ 0 < ns.length ∧ ∀ m, m ∈ ns → (∀ y, y ∈ ns → m ≤ y) → Q (.int m) H
theorem cr_sumT (hc : X.calm = true) : CallR X (.builtin "sum") (rSumT X.K) := by
  intro pins s σ H vs us Q I r h
  obtain ⟨a, ns, rfl, hs, q⟩ := h
  obtain ⟨its, rv, hl, _⟩ := I.tuple hs
  rw [Vals.ref1 r]
  exact sum_rawT (I.ok.hd hc) hl rv.ints fun h' tk t' hk => ⟨.int _, H, I.kept hk, ⟨_, rfl⟩, q⟩
theorem cr_maxT (hc : X.calm = true) : CallR X (.builtin "max") (rMaxT X.K) := by
  intro pins s σ H vs us Q I r h
  obtain ⟨a, ns, rfl, hs, hne, q⟩ := h
  obtain ⟨its, rv, hl, _⟩ := I.tuple hs
  rw [Vals.ref1 r]
  exact max_rawT (I.ok.hd hc) hl rv.ints hne fun h' tk m t' hk h1 h2 => ⟨.int _, H, I.kept hk, ⟨_, rfl⟩, q m h1 h2⟩
theorem cr_minT (hc : X.calm = true) : CallR X (.builtin "min") (rMinT X.K) := by
  intro pins s σ H vs us Q I r h
  obtain ⟨a, ns, rfl, hs, hne, q⟩ := h
  obtain ⟨its, rv, hl, _⟩ := I.tuple hs
  rw [Vals.ref1 r]
  exact min_rawT (I.ok.hd hc) hl rv.ints hne fun h' tk m t' hk h1 h2 => ⟨.int _, H, I.kept hk, ⟨_, rfl⟩, q m h1 h2⟩
def maxT : List D → Option D
  | [.tuple ds] => match intsOf ds with
    | some (n :: ns) => some (.int (maxL n ns))
    | _ => none
  | _ => none
def minT : List D → Option D
  | [.tuple ds] => match intsOf ds with
    | some (n :: ns) => some (.int (minL n ns))
    | _ => none
  | _ => none
def sumT : List D → Option D
  | [.tuple ds] => match intsOf ds with
    | some ns => some (.int ns.sum)
    | none => none
  | _ => none
theorem sc_maxT (hc : X.calm = true) : SemCl X Wx (.builtin "max") (cD maxT) := ⟨_, cr_maxT hc, semC_d fun G H xs ds d Q e rs hf k _ => by
  unfold maxT at hf
  split at hf
  · split at hf
    · rename_i n ns en
      cases hf
      cases rs with
      | cons r t =>
        cases t
        cases r with
        | tup _ h r =>
          rw [r.toInts en] at h
          refine ⟨_, _, rfl, h, by simp, fun m hm hy => ?_⟩
          rw [← maxL_ok ns n m (by simpa using hm) fun y h => hy y (by simpa using h)]
          exact k _ (.int _)
    · cases hf
  · cases hf⟩
theorem sc_minT (hc : X.calm = true) : SemCl X Wx (.builtin "min") (cD minT) := ⟨_, cr_minT hc, semC_d fun G H xs ds d Q e rs hf k _ => by
  unfold minT at hf
  split at hf
  · split at hf
    · rename_i n ns en
      cases hf
      cases rs with
      | cons r t =>
        cases t
        cases r with
        | tup _ h r =>
          rw [r.toInts en] at h
          refine ⟨_, _, rfl, h, by simp, fun m hm hy => ?_⟩
          rw [← minL_ok ns n m (by simpa using hm) fun y h => hy y (by simpa using h)]
          exact k _ (.int _)
    · cases hf
  · cases hf⟩
theorem sc_sumT (hc : X.calm = true) : SemCl X Wx (.builtin "sum") (cD sumT) := ⟨_, cr_sumT hc, semC_d fun G H xs ds d Q e rs hf k _ => by
  unfold sumT at hf
  split at hf
  · split at hf
    · rename_i ns en
      cases hf
      cases rs with
      | cons r t =>
        cases t
        cases r with
        | tup _ h r =>
          rw [r.toInts en] at h
          exact ⟨_, _, rfl, h, k _ (.int _)⟩
    · cases hf
  · cases hf⟩
theorem SemC.or {r r' : List V → Hp → VK → Prop} {f f' : List D → Option D} (h : SemC X Wx r (cD f)) (h' : SemC X Wx r' (cD f')) : SemC X Wx (fun vs H Q => r vs H Q ∨ r' vs H Q) (cD fun ds => match f ds with
    | some d => some d
    | none => f' ds) := by
  intro g σ H0 H ρ vs ws Q S rs p
  unfold cD at p
  cases ev : viewsS ρ ws with
  | none => rw [ev] at p; exact p.elim
  | some ds =>
    rw [ev] at p
    dsimp only at p
    cases ef : f ds with
    | some d =>
      rw [ef] at p
      exact .inl (h g σ H0 H ρ vs ws Q S rs (by unfold cD; rw [ev]; dsimp only; rw [ef]; exact p))
    | none =>
      rw [ef] at p
      exact .inr (h' g σ H0 H ρ vs ws Q S rs (by unfold cD; rw [ev]; exact p))
def maxF2 : List D → Option D := fun ds => match maxF ds with
  | some d => some d
  | none => maxT ds
def minF2 : List D → Option D := fun ds => match minF ds with
  | some d => some d
  | none => minT ds
def sumF2 : List D → Option D := fun ds => match sumF ds with
  | some d => some d
  | none => sumT ds
theorem SemCl.or {f : Value} {F F' : List D → Option D} (h : SemCl X Wx f (cD F)) (h' : SemCl X Wx f (cD F')) : SemCl X Wx f (cD fun ds => match F ds with
    | some d => some d
    | none => F' ds) := let ⟨_, p, q⟩ := h; let ⟨_, p', q'⟩ := h'; ⟨_, p.or p', q.or q'⟩
theorem sc_max2 (hc : X.calm = true) : SemCl X Wx (.builtin "max") (cD maxF2) := (sc_max hc).or (sc_maxT hc)
theorem sc_min2 (hc : X.calm = true) : SemCl X Wx (.builtin "min") (cD minF2) := (sc_min hc).or (sc_minT hc)
theorem sc_sum2 (hc : X.calm = true) : SemCl X Wx (.builtin "sum") (cD sumF2) := (sc_sum hc).or (sc_sumT hc)
end
/-! ### what they are -/
def maxZ : List Int → Int
  | [] => 0
  | n :: ns => maxL n ns
def minZ : List Int → Int
  | [] => 0
  | n :: ns => minL n ns
theorem maxL_spec : ∀ (ns : List Int) (m : Int), (maxL m ns = m ∨ maxL m ns ∈ ns) ∧ m ≤ maxL m ns ∧ ∀ n ∈ ns, n ≤ maxL m ns
  | [], m => by simp [maxL]
  | n :: ns, m => by
    by_cases c : n > m
    · obtain ⟨h1, h2, h3⟩ := maxL_spec ns n
      have e : maxL m (n :: ns) = maxL n ns := by
        show maxL (if n > m then n else m) ns = _
        rw [if_pos c]
      rw [e]
      refine ⟨.inr ?_, by omega, fun x hx => ?_⟩
      · rcases h1 with h1 | h1
        · rw [h1]; simp
        · exact List.mem_cons_of_mem _ h1
      · rcases List.mem_cons.mp hx with rfl | hx
        · exact h2
        · exact h3 x hx
    · obtain ⟨h1, h2, h3⟩ := maxL_spec ns m
      have e : maxL m (n :: ns) = maxL m ns := by
        show maxL (if n > m then n else m) ns = _
        rw [if_neg c]
      rw [e]
      refine ⟨?_, h2, fun x hx => ?_⟩
      · rcases h1 with h1 | h1
        · exact .inl h1
        · exact .inr (List.mem_cons_of_mem _ h1)
      · rcases List.mem_cons.mp hx with rfl | hx
        · omega
        · exact h3 x hx
theorem minL_spec : ∀ (ns : List Int) (m : Int), (minL m ns = m ∨ minL m ns ∈ ns) ∧ minL m ns ≤ m ∧ ∀ n ∈ ns, minL m ns ≤ n
  | [], m => by simp [minL]
  | n :: ns, m => by
    by_cases c : n < m
    · obtain ⟨h1, h2, h3⟩ := minL_spec ns n
      have e : minL m (n :: ns) = minL n ns := by
        show minL (if n < m then n else m) ns = _
        rw [if_pos c]
      rw [e]
      refine ⟨.inr ?_, by omega, fun x hx => ?_⟩
      · rcases h1 with h1 | h1
        · rw [h1]; simp
        · exact List.mem_cons_of_mem _ h1
      · rcases List.mem_cons.mp hx with rfl | hx
        · exact h2
        · exact h3 x hx
    · obtain ⟨h1, h2, h3⟩ := minL_spec ns m
      have e : minL m (n :: ns) = minL m ns := by
        show minL (if n < m then n else m) ns = _
        rw [if_neg c]
      rw [e]
      refine ⟨?_, h2, fun x hx => ?_⟩
      · rcases h1 with h1 | h1
        · exact .inl h1
        · exact .inr (List.mem_cons_of_mem _ h1)
      · rcases List.mem_cons.mp hx with rfl | hx
        · omega
        · exact h3 x hx
theorem maxZ_mem {ns : List Int} (h : ns ≠ []) : maxZ ns ∈ ns := by
  cases ns with
  | nil => exact absurd rfl h
  | cons n ns => rcases (maxL_spec ns n).1 with e | e <;> simp [maxZ, e]
theorem minZ_mem {ns : List Int} (h : ns ≠ []) : minZ ns ∈ ns := by
  cases ns with
  | nil => exact absurd rfl h
  | cons n ns => rcases (minL_spec ns n).1 with e | e <;> simp [minZ, e]
theorem le_maxZ {ns : List Int} {x : Int} (h : x ∈ ns) : x ≤ maxZ ns := by
  cases ns with
  | nil => cases h
  | cons n ns =>
    rcases List.mem_cons.mp h with rfl | h
    · exact (maxL_spec ns x).2.1
    · exact (maxL_spec ns n).2.2 x h
theorem minZ_le {ns : List Int} {x : Int} (h : x ∈ ns) : minZ ns ≤ x := by
  cases ns with
  | nil => cases h
  | cons n ns =>
    rcases List.mem_cons.mp h with rfl | h
    · exact (minL_spec ns x).2.1
    · exact (minL_spec ns n).2.2 x h
theorem le_minZ {ns : List Int} {k : Int} (h : ns ≠ []) : k ≤ minZ ns ↔ ∀ n ∈ ns, k ≤ n :=
  ⟨fun z n hn => Int.le_trans z (minZ_le hn), fun z => z _ (minZ_mem h)⟩
theorem maxF2_list {ns : List Int} (h : ns ≠ []) : maxF2 [.list (ns.map PyData.int)] = some (.int (maxZ ns)) := by
  cases ns with
  | nil => exact absurd rfl h
  | cons n ns => simp only [maxF2, maxF, intsOf_map, maxZ]
theorem maxF2_tup {ns : List Int} (h : ns ≠ []) : maxF2 [.tuple (ns.map PyData.int)] = some (.int (maxZ ns)) := by
  cases ns with
  | nil => exact absurd rfl h
  | cons n ns => simp only [maxF2, maxF, maxT, intsOf_map, maxZ]
theorem minF2_list {ns : List Int} (h : ns ≠ []) : minF2 [.list (ns.map PyData.int)] = some (.int (minZ ns)) := by
  cases ns with
  | nil => exact absurd rfl h
  | cons n ns => simp only [minF2, minF, intsOf_map, minZ]
theorem minF2_tup {ns : List Int} (h : ns ≠ []) : minF2 [.tuple (ns.map PyData.int)] = some (.int (minZ ns)) := by
  cases ns with
  | nil => exact absurd rfl h
  | cons n ns => simp only [minF2, minF, minT, intsOf_map, minZ]
@[simp] theorem maxF2_ii (i j : Int) : maxF2 [.int i, .int j] = some (.int (if j > i then j else i)) := rfl
@[simp] theorem minF2_ii (i j : Int) : minF2 [.int i, .int j] = some (.int (if j < i then j else i)) := rfl
@[simp] theorem sumF2_list (ns : List Int) : sumF2 [.list (ns.map PyData.int)] = some (.int ns.sum) := by simp only [sumF2, sumF, intsOf_map]
@[simp] theorem sumF2_tup (ns : List Int) : sumF2 [.tuple (ns.map PyData.int)] = some (.int ns.sum) := by simp only [sumF2, sumF, sumT, intsOf_map]
end Py

namespace Py
open PySem PySem.Spec PyProof.Rows L2
/-! ### comprehensions and loops over typed lists -/
theorem lc_a {α : Type} {s : IS} {f : TgF} {t : BS} {e : ES} {vs : List Nat} {ρ ρ0 ρw : Env'} {l : List α} (D' : α → D) (p : α → Bool) (g : α → D) (hs : s ρ = some (.ok (l.map D') ρ0)) (fr : freeE ρ0 vs = true) (hw : wipeE ρ0 vs = ρw) (hk : keepE ρ0 ρw vs = ρ0)
    (hd : ∀ a ∈ l, ∃ ρ1, f (D' a) ρw = some (.nx ρ1) ∧ t ρ1 = some (.ok (p a) ρ1) ∧ (p a = true → e ρ1 = some (.ok (.dat (g a)) ρ1)) ∧ wipeE ρ1 vs = ρw) (hz : l.length ≤ lim) :
    lcS s f t e vs ρ = some (.ok (.fresh (.lst ((l.filter p).map g))) ρ0) := by
  have main : ∀ (l : List α) (n : Nat), n + l.length ≤ lim → (∀ a ∈ l, ∃ ρ1, f (D' a) ρw = some (.nx ρ1) ∧ t ρ1 = some (.ok (p a) ρ1) ∧ (p a = true → e ρ1 = some (.ok (.dat (g a)) ρ1)) ∧ wipeE ρ1 vs = ρw) →
      lcL f t e vs n (l.map D') ρw = some (.ok ((l.filter p).map g) ρw) := by
    intro l
    induction l with
    | nil => intro n _ _; rfl
    | cons d ds ih =>
      intro n hn hd
      obtain ⟨ρ1, h1, h2, h3, h4⟩ := hd d (by simp)
      have hn' : n + 1 + ds.length ≤ lim := by simp only [List.length_cons] at hn; omega
      rw [List.map_cons]
      cases hp : p d with
      | false =>
        rw [hp] at h2
        have ih := ih n (by omega) fun x hx => hd x (by simp [hx])
        unfold lcL
        simp only [h1, h2, h4, ih, List.filter_cons, hp, Bool.false_eq_true, if_false]
      | true =>
        rw [hp] at h2
        have ih := ih (n + 1) hn' fun x hx => hd x (by simp [hx])
        unfold lcL
        have hlt : n < lim := by simp only [List.length_cons] at hn; omega
        simp only [h1, h2, h3 hp, h4, ih, List.filter_cons, hp, if_true, List.map_cons]
        simp [hlt]
  unfold lcS
  rw [hs]
  simp only [bnd_some_ok, fr, if_true]
  rw [hw, main l 0 (by omega) hd]
  simp only [hk]
theorem lc_am {α : Type} {s : IS} {f : TgF} {e : ES} {vs : List Nat} {ρ ρ0 ρw : Env'} {l : List α} (D' : α → D) (g : α → D) (hs : s ρ = some (.ok (l.map D') ρ0)) (fr : freeE ρ0 vs = true) (hw : wipeE ρ0 vs = ρw) (hk : keepE ρ0 ρw vs = ρ0)
    (hd : ∀ a ∈ l, ∃ ρ1, f (D' a) ρw = some (.nx ρ1) ∧ e ρ1 = some (.ok (.dat (g a)) ρ1) ∧ wipeE ρ1 vs = ρw) (hz : l.length ≤ lim) :
    lcS s f yesS e vs ρ = some (.ok (.fresh (.lst (l.map g))) ρ0) := by
  have := lc_a (t := yesS) D' (fun _ => true) g hs fr hw hk (fun a ha => let ⟨ρ1, h1, h2, h3⟩ := hd a ha; ⟨ρ1, h1, rfl, fun _ => h2, h3⟩) hz
  rw [this, List.filter_eq_self.mpr fun _ _ => rfl]
/-- a loop that goes to its end: what it changes is a fold -/
theorem for_fold {α β : Type} {f : TgF} {b : SS} (D' : α → D) (mk : β → Option Slot → Env') (step : β → α → β) : ∀ (l : List α), (∀ a ∈ l, ∀ acc x, Free x → ∃ y, Free y ∧ (seqS (f (D' a)) b (mk acc x) = some (.nx (mk (step acc a) y)) ∨ seqS (f (D' a)) b (mk acc x) = some (.ct (mk (step acc a) y)))) →
    ∀ acc x, Free x → ∃ y, Free y ∧ forL f b (l.map D') (mk acc x) = some (.nx (mk (l.foldl step acc) y))
  | [], _, acc, x, hx => ⟨x, hx, rfl⟩
  | a :: l, hd, acc, x, hx => by
    obtain ⟨y, hy, e⟩ := hd a (by simp) acc x hx
    obtain ⟨z, hz, e2⟩ := for_fold D' mk step l (fun b hb => hd b (by simp [hb])) (step acc a) y hy
    refine ⟨z, hz, ?_⟩
    rw [List.map_cons]
    unfold forL
    rcases e with e | e <;> simp only [e, e2, List.foldl_cons]
/-- the same with what holds of the fold -/
theorem for_inv {α β : Type} {f : TgF} {b : SS} (D' : α → D) (mk : β → Option Slot → Env') (I : Nat → β → Prop) : ∀ (l : List α) (k : Nat), (∀ (j : Nat) (a : α), l[j]? = some a → ∀ acc x, I (k + j) acc → Free x → ∃ acc' y, I (k + j + 1) acc' ∧ Free y ∧ (seqS (f (D' a)) b (mk acc x) = some (.nx (mk acc' y)) ∨ seqS (f (D' a)) b (mk acc x) = some (.ct (mk acc' y)))) →
    ∀ acc x, I k acc → Free x → ∃ acc' y, I (k + l.length) acc' ∧ Free y ∧ forL f b (l.map D') (mk acc x) = some (.nx (mk acc' y))
  | [], k, _, acc, x, hi, hx => ⟨acc, x, hi, hx, rfl⟩
  | a :: l, k, hd, acc, x, hi, hx => by
    obtain ⟨acc', y, hi', hy, e⟩ := hd 0 a rfl acc x hi hx
    obtain ⟨acc2, z, hi2, hz, e2⟩ := for_inv D' mk I l (k + 1) (fun j b hb acc x hi hx => by
      have := hd (j + 1) b (by simpa using hb) acc x (by rw [show k + (j + 1) = k + 1 + j by omega]; exact hi) hx
      rw [show k + (j + 1) + 1 = k + 1 + j + 1 by omega] at this
      exact this) acc' y hi' hy
    refine ⟨acc2, z, by rw [List.length_cons, show k + (l.length + 1) = k + 1 + l.length by omega]; exact hi2, hz, ?_⟩
    rw [List.map_cons]
    unfold forL
    rcases e with e | e <;> simp only [e, e2]
/-- a loop that may hand back r: where p says so of what it holds and the item -/
def runP {α β : Type} (p : β → α → Bool) (step : β → α → β) : β → List α → Option β
  | acc, [] => some acc
  | acc, a :: l => if p acc a then none else runP p step (step acc a) l
theorem for_run {α β : Type} {f : TgF} {b : SS} (D' : α → D) (mk : β → Option Slot → Env') (p : β → α → Bool) (step : β → α → β) (r : W) : ∀ (l : List α), (∀ a ∈ l, ∀ acc x, Free x → (p acc a = true ∧ ∃ acc' y, seqS (f (D' a)) b (mk acc x) = some (.ret r (mk acc' y))) ∨ (p acc a = false ∧ ∃ y, Free y ∧ seqS (f (D' a)) b (mk acc x) = some (.nx (mk (step acc a) y)))) →
    ∀ acc x, Free x → (runP p step acc l = none ∧ ∃ acc' y, forL f b (l.map D') (mk acc x) = some (.ret r (mk acc' y))) ∨ (∃ acc', runP p step acc l = some acc' ∧ ∃ y, Free y ∧ forL f b (l.map D') (mk acc x) = some (.nx (mk acc' y)))
  | [], _, acc, x, hx => .inr ⟨acc, rfl, x, hx, rfl⟩
  | a :: l, hd, acc, x, hx => by
    rw [List.map_cons]
    rcases hd a (by simp) acc x hx with ⟨h1, acc', y, e⟩ | ⟨h1, y, hy, e⟩
    · refine .inl ⟨by simp only [runP, h1, if_true], acc', y, ?_⟩
      unfold forL
      simp only [e]
    · have := for_run D' mk p step r l (fun b hb => hd b (by simp [hb])) (step acc a) y hy
      unfold forL
      simp only [e, runP, h1, Bool.false_eq_true, if_false]
      exact this
/-- .. where only the item says so, and nothing but the names changes -/
theorem for_any {α : Type} {f : TgF} {b : SS} (D' : α → D) (I : Env' → Prop) (p : α → Bool) (r : W) : ∀ (l : List α), (∀ a ∈ l, ∀ ρ, I ρ → (p a = true ∧ ∃ ρ', I ρ' ∧ seqS (f (D' a)) b ρ = some (.ret r ρ')) ∨ (p a = false ∧ ∃ ρ', I ρ' ∧ (seqS (f (D' a)) b ρ = some (.nx ρ') ∨ seqS (f (D' a)) b ρ = some (.ct ρ')))) →
    ∀ ρ, I ρ → (l.any p = true ∧ ∃ ρ', I ρ' ∧ forL f b (l.map D') ρ = some (.ret r ρ')) ∨ (l.any p = false ∧ ∃ ρ', I ρ' ∧ forL f b (l.map D') ρ = some (.nx ρ'))
  | [], _, ρ, hi => .inr ⟨rfl, ρ, hi, rfl⟩
  | a :: l, hd, ρ, hi => by
    rw [List.map_cons]
    rcases hd a (by simp) ρ hi with ⟨h1, ρ', hi', e⟩ | ⟨h1, ρ', hi', e⟩
    · refine .inl ⟨by simp [h1], ρ', hi', ?_⟩
      unfold forL
      simp only [e]
    · rcases for_any D' I p r l (fun b hb => hd b (by simp [hb])) ρ' hi' with ⟨k1, ρ2, k2, k3⟩ | ⟨k1, ρ2, k2, k3⟩
      · refine .inl ⟨by simp [k1], ρ2, k2, ?_⟩
        unfold forL
        rcases e with e | e <;> simp only [e, k3]
      · refine .inr ⟨by simp [h1, k1], ρ2, k2, ?_⟩
        unfold forL
        rcases e with e | e <;> simp only [e, k3]
/-! ### places -/
theorem atI_get {α : Type} {xs : List α} {i : Int} (h0 : 0 ≤ i) (h1 : i.toNat < xs.length) : atI xs i = some xs[i.toNat] := by
  have e := atI_nat (xs := xs) (j := i.toNat) (v := xs[i.toNat]) (by simp [h1])
  rw [show ((i.toNat : Nat) : Int) = i by omega] at e
  exact e
def getZ (ns : List Int) (i : Int) : Int := ns.getD i.toNat 0
theorem getZ_nat (ns : List Int) (i : Nat) : getZ ns (i : Int) = ns.getD i 0 := by simp [getZ]
theorem atI_Z {ns : List Int} {i : Int} (h0 : 0 ≤ i) (h1 : i < (ns.length : Nat)) : atI (ns.map PyData.int) i = some (.int (getZ ns i)) := by
  have h2 : i.toNat < ns.length := by omega
  rw [atI_map, atI_get h0 h2]
  simp [getZ, h2]
theorem getZ_mem {ns : List Int} {i : Int} (h0 : 0 ≤ i) (h1 : i < (ns.length : Nat)) : getZ ns i ∈ ns := by
  have h2 : i.toNat < ns.length := by omega
  simp [getZ, h2]
theorem enumD_map {α : Type} (f : α → D) (l : List α) : enumD (l.map f) = l.zipIdx.map fun q => .tuple [.int (q.2 : Nat), f q.1] := by
  simp [enumD, List.zipIdx_map, List.map_map, Function.comp_def]
theorem zip2D_map {α β : Type} (f : α → D) (h : β → D) (l : List α) (m : List β) : zip2D (l.map f) (m.map h) = (l.zip m).map fun q => .tuple [f q.1, h q.2] := by
  simp [zip2D, List.zip_map, List.map_map, Function.comp_def]
@[simp] theorem enumI_at (s : ES) (ρ : Env') : enumI s ρ = bnd (s ρ) fun w ρ => match w with
  | .dat d => (match seqD d with
    | some ds => some (.ok (enumD ds) ρ)
    | none => none)
  | _ => none := rfl
@[simp] theorem seqD_list (ds : List D) : seqD (.list ds) = some ds := rfl
@[simp] theorem seqD_tuple (ds : List D) : seqD (.tuple ds) = some ds := rfl
@[simp] theorem zip2F_at (d e : D) (ρ : Env') : zip2F [.dat d, .dat e] ρ = match seqD d with
    | some ds => (match seqD e with
      | some es => some (.ok (zip2D ds es) ρ)
      | none => none)
    | none => none := rfl
theorem mem_zipIdxZ {ns : List Int} {x : Int} {i : Nat} : (x, i) ∈ ns.zipIdx ↔ i < ns.length ∧ getZ ns (i : Int) = x := by
  rw [List.mk_mem_zipIdx_iff_getElem?, List.getElem?_eq_some_iff, getZ_nat]
  constructor
  · rintro ⟨h, e⟩; exact ⟨h, by simp [h, e]⟩
  · rintro ⟨h, e⟩; exact ⟨h, by simpa [h] using e⟩
theorem rng1_map {ρ : Env'} {j : Int} (h0 : 0 ≤ j) (h : j ≤ 1000000) : rng1F [.dat (.int j)] ρ = some (.ok ((List.range j.toNat).map fun i : Nat => PyData.int (i : Nat)) ρ) := by
  rw [rng1_at h0 h]
  simp [rngD]
theorem rng2_map {ρ : Env'} {i j : Int} (h0 : -1000000 ≤ i ∧ i ≤ 1000000) (h : -1000000 ≤ j ∧ j ≤ 1000000) : rng2F [.dat (.int i), .dat (.int j)] ρ = some (.ok ((List.range (j - i).toNat).map fun k : Nat => PyData.int (i + (k : Nat))) ρ) := by
  have : (-big ≤ i ∧ i < big) ∧ (-big ≤ j ∧ j < big) := by unfold big; omega
  simp [rng2F, this, rngD]
end Py

namespace Py
open PySem PySem.Spec PyProof.Rows L2
/-! ### comparisons of what is written out -/
@[simp] theorem gEq_ii (ρ : Env') (i j : Int) : gEq (.dat (.int i)) (.dat (.int j)) ρ = some (.ok (.dat (.bool (decide (i = j)))) ρ) := by
  rw [gEq_of rfl rfl (by simp) (by simp), eqv_int]
@[simp] theorem gNe_ii (ρ : Env') (i j : Int) : gNe (.dat (.int i)) (.dat (.int j)) ρ = some (.ok (.dat (.bool (!decide (i = j)))) ρ) := by
  rw [gNe_of rfl rfl (by simp) (by simp), eqv_int]
theorem eqv_bool (i j : Bool) : PyData.eqv (.bool i) (.bool j) = decide (i = j) := by cases i <;> cases j <;> rfl
@[simp] theorem gEq_bb (ρ : Env') (i j : Bool) : gEq (.dat (.bool i)) (.dat (.bool j)) ρ = some (.ok (.dat (.bool (decide (i = j)))) ρ) := by
  rw [gEq_of rfl rfl (by simp) (by simp), eqv_bool]
@[simp] theorem gNe_bb (ρ : Env') (i j : Bool) : gNe (.dat (.bool i)) (.dat (.bool j)) ρ = some (.ok (.dat (.bool (!decide (i = j)))) ρ) := by
  rw [gNe_of rfl rfl (by simp) (by simp), eqv_bool]
@[simp] theorem gEq_ll (ρ : Env') (ns ms : List Int) : gEq (.dat (.list (ns.map PyData.int))) (.dat (.list (ms.map PyData.int))) ρ = some (.ok (.dat (.bool (decide (ns = ms)))) ρ) := by
  rw [gEq_of (x := rowD ns) (y := rowD ms) rfl rfl (by simp) (by simp), eqv_rows]
@[simp] theorem gNe_ll (ρ : Env') (ns ms : List Int) : gNe (.dat (.list (ns.map PyData.int))) (.dat (.list (ms.map PyData.int))) ρ = some (.ok (.dat (.bool (!decide (ns = ms)))) ρ) := by
  rw [gNe_of (x := rowD ns) (y := rowD ms) rfl rfl (by simp) (by simp), eqv_rows]
@[simp] theorem gEq_l0 (ρ : Env') (ns : List Int) : gEq (.dat (.list (ns.map PyData.int))) (.fresh (.lst [])) ρ = some (.ok (.dat (.bool (decide (ns = [])))) ρ) := by
  rw [gEq_of (x := rowD ns) (y := rowD []) rfl rfl (by simp) (by simp), eqv_rows]
@[simp] theorem gNe_l0 (ρ : Env') (ns : List Int) : gNe (.dat (.list (ns.map PyData.int))) (.fresh (.lst [])) ρ = some (.ok (.dat (.bool (!decide (ns = [])))) ρ) := by
  rw [gNe_of (x := rowD ns) (y := rowD []) rfl rfl (by simp) (by simp), eqv_rows]
@[simp] theorem gEq_f0 (ρ : Env') (ns : List Int) : gEq (.fresh (.lst (ns.map PyData.int))) (.fresh (.lst [])) ρ = some (.ok (.dat (.bool (decide (ns = [])))) ρ) := by
  rw [gEq_of (x := rowD ns) (y := rowD []) rfl rfl (by simp) (by simp), eqv_rows]
@[simp] theorem gNe_f0 (ρ : Env') (ns : List Int) : gNe (.fresh (.lst (ns.map PyData.int))) (.fresh (.lst [])) ρ = some (.ok (.dat (.bool (!decide (ns = [])))) ρ) := by
  rw [gNe_of (x := rowD ns) (y := rowD []) rfl rfl (by simp) (by simp), eqv_rows]
@[simp] theorem gEq_r0 (ρ : Env') (rs : List (List Int)) : gEq (.dat (.list (rs.map rowD))) (.fresh (.lst [])) ρ = some (.ok (.dat (.bool (decide (rs = [])))) ρ) := by
  rw [gEq_of (x := rowsD rs) (y := rowD []) rfl rfl (by simp) (by simp)]
  exact congrArg (fun b => some (R.ok (W.dat (PyData.bool b)) ρ)) (eqv_nil rs)
@[simp] theorem gNe_r0 (ρ : Env') (rs : List (List Int)) : gNe (.dat (.list (rs.map rowD))) (.fresh (.lst [])) ρ = some (.ok (.dat (.bool (!decide (rs = [])))) ρ) := by
  rw [gNe_of (x := rowsD rs) (y := rowD []) rfl rfl (by simp) (by simp)]
  exact congrArg (fun b => some (R.ok (W.dat (PyData.bool (!b))) ρ)) (eqv_nil rs)
@[simp] theorem gNe_00 (ρ : Env') : gNe (.dat (.list [])) (.fresh (.lst [])) ρ = some (.ok (.dat (.bool false)) ρ) := gNe_l0 ρ []
@[simp] theorem gEq_00 (ρ : Env') : gEq (.dat (.list [])) (.fresh (.lst [])) ρ = some (.ok (.dat (.bool true)) ρ) := gEq_l0 ρ []
@[simp] theorem gNe_f00 (ρ : Env') : gNe (.fresh (.lst [])) (.fresh (.lst [])) ρ = some (.ok (.dat (.bool false)) ρ) := gNe_f0 ρ []
@[simp] theorem gEq_f00 (ρ : Env') : gEq (.fresh (.lst [])) (.fresh (.lst [])) ρ = some (.ok (.dat (.bool true)) ρ) := gEq_f0 ρ []
@[simp] theorem gIn_i (ρ : Env') (i : Int) (ns : List Int) : gIn (.dat (.int i)) (.dat (.list (ns.map PyData.int))) ρ = some (.ok (.dat (.bool (decide (i ∈ ns)))) ρ) := by
  rw [gIn_of rfl rfl (by simp) (by simp), any_ints]
@[simp] theorem gNotIn_i (ρ : Env') (i : Int) (ns : List Int) : gNotIn (.dat (.int i)) (.dat (.list (ns.map PyData.int))) ρ = some (.ok (.dat (.bool (!decide (i ∈ ns)))) ρ) := by
  rw [gNotIn_of rfl rfl (by simp) (by simp), any_ints]
@[simp] theorem gEq_shown (ρ : Env') (x : Str) : gEq (.dat (.str x)) (.dat (.str x)) ρ = some (.ok (.dat (.bool true)) ρ) := by simp
theorem listR1_at {S : Int} (ρ : Env') (h0 : 0 ≤ S) (h1 : S ≤ 1000000) : listR1 (.dat (.int S)) ρ = some (.ok (.fresh (.lst (((List.range S.toNat).map fun i => ((i : Nat) : Int)).map PyData.int))) ρ) := by
  have e : rgC 0 S = true := by
    simp [rgC]
    omega
  simp [listR1, e, rngD, List.map_map, Function.comp_def]
theorem gIx_row {ρ : Env'} {ns : List Int} {i : Int} (h0 : 0 ≤ i) (h1 : i < (ns.length : Nat)) : gIx (.dat (.list (ns.map PyData.int))) (.dat (.int i)) ρ = some (.ok (.dat (.int (getZ ns i))) ρ) := by
  rw [gIx_at]
  simp [atI_Z h0 h1]
theorem gIx_rowT {ρ : Env'} {ns : List Int} {i : Int} (h0 : 0 ≤ i) (h1 : i < (ns.length : Nat)) : gIx (.dat (.tuple (ns.map PyData.int))) (.dat (.int i)) ρ = some (.ok (.dat (.int (getZ ns i))) ρ) := by
  rw [gIx_at]
  simp [atI_Z h0 h1]
@[simp] theorem allF_bools (bs : List Bool) : allF [.list (bs.map PyData.bool)] = some (.bool (bs.all id)) := by simp [allF]
@[simp] theorem anyF_bools (bs : List Bool) : anyF [.list (bs.map PyData.bool)] = some (.bool (bs.any id)) := by simp [anyF]
theorem seqI_list {s : ES} {ρ ρ' : Env'} {ds : List D} (h : s ρ = some (.ok (.dat (.list ds)) ρ')) : seqI s ρ = some (.ok ds ρ') := by
  unfold seqI; rw [h]; rfl
end Py

namespace Py
open PySem PySem.Spec PyProof.Rows L2
/-- a comprehension over a source that changes nothing -/
theorem lc_f {α : Type} (l : List α) {s : IS} {f : TgF} {t : BS} {e : ES} {vs : List Nat} {ρ ρw : Env'} (D' : α → D) (p : α → Bool) (g : α → D) (hs : s ρ = some (.ok (l.map D') ρ)) (fr : freeE ρ vs = true) (hw : wipeE ρ vs = ρw) (hk : keepE ρ ρw vs = ρ)
    (hd : ∀ a ∈ l, ∃ ρ1, f (D' a) ρw = some (.nx ρ1) ∧ t ρ1 = some (.ok (p a) ρ1) ∧ (p a = true → e ρ1 = some (.ok (.dat (g a)) ρ1)) ∧ wipeE ρ1 vs = ρw) (hz : l.length ≤ lim) :
    lcS s f t e vs ρ = some (.ok (.fresh (.lst ((l.filter p).map g))) ρ) := lc_a D' p g hs fr hw hk hd hz
theorem lc_fm {α : Type} (l : List α) {s : IS} {f : TgF} {e : ES} {vs : List Nat} {ρ ρw : Env'} (D' : α → D) (g : α → D) (hs : s ρ = some (.ok (l.map D') ρ)) (fr : freeE ρ vs = true) (hw : wipeE ρ vs = ρw) (hk : keepE ρ ρw vs = ρ)
    (hd : ∀ a ∈ l, ∃ ρ1, f (D' a) ρw = some (.nx ρ1) ∧ e ρ1 = some (.ok (.dat (g a)) ρ1) ∧ wipeE ρ1 vs = ρw) (hz : l.length ≤ lim) :
    lcS s f yesS e vs ρ = some (.ok (.fresh (.lst (l.map g))) ρ) := lc_am D' g hs fr hw hk hd hz
theorem free_all {ρ : Env'} {vs : List Nat} (h : ∀ i ∈ vs, ∃ x, ρ[i]? = some x ∧ Free x) : freeE ρ vs = true := by
  unfold freeE
  rw [List.all_eq_true]
  intro i hi
  obtain ⟨x, hx, hf⟩ := h i hi
  simp only [List.getD_eq_getElem?_getD, hx, Option.getD_some]
  rcases hf with rfl | ⟨w, rfl⟩ <;> rfl
theorem set_back {ρ : Env'} {i : Nat} {x : Option Slot} (h : ρ[i]? = some x) : ρ.set i x = ρ := by
  obtain ⟨hl, rfl⟩ := List.getElem?_eq_some_iff.mp h
  exact List.set_getElem_self hl
/-- one name -/
theorem lc_n {α : Type} (l : List α) {s : IS} {t : BS} {e : ES} {i : Nat} {ρ : Env'} {x : Option Slot} (D' : α → D) (p : α → Bool) (g : α → D) (hs : s ρ = some (.ok (l.map D') ρ)) (hx : ρ[i]? = some x) (hf : Free x)
    (hd : ∀ a ∈ l, t (ρ.set i (some (.val (.dat (D' a))))) = some (.ok (p a) (ρ.set i (some (.val (.dat (D' a)))))) ∧ (p a = true → e (ρ.set i (some (.val (.dat (D' a))))) = some (.ok (.dat (g a)) (ρ.set i (some (.val (.dat (D' a)))))))) (hz : l.length ≤ lim) :
    lcS s (nmG i) t e [i] ρ = some (.ok (.fresh (.lst ((l.filter p).map g))) ρ) := by
  have hi : i < ρ.length := (List.getElem?_eq_some_iff.mp hx).1
  refine lc_f l D' p g hs (free_all fun j hj => ?_) rfl (keep_wipe hi) (fun a ha => ?_) hz
  · rw [List.mem_singleton.mp hj]; exact ⟨x, hx, hf⟩
  · obtain ⟨h1, h2⟩ := hd a ha
    refine ⟨_, ?_, h1, h2, ?_⟩
    · rw [wipe_one, nmG_free (x := none) (D' a) (by simp [hi]) free_none]
      simp
    · rw [wipe_set, wipe_one]
theorem lc_nm {α : Type} (l : List α) {s : IS} {e : ES} {i : Nat} {ρ : Env'} {x : Option Slot} (D' : α → D) (g : α → D) (hs : s ρ = some (.ok (l.map D') ρ)) (hx : ρ[i]? = some x) (hf : Free x)
    (hd : ∀ a ∈ l, e (ρ.set i (some (.val (.dat (D' a))))) = some (.ok (.dat (g a)) (ρ.set i (some (.val (.dat (D' a))))))) (hz : l.length ≤ lim) :
    lcS s (nmG i) yesS e [i] ρ = some (.ok (.fresh (.lst (l.map g))) ρ) := by
  have := lc_n (t := yesS) l D' (fun _ => true) g hs hx hf (fun a ha => ⟨rfl, fun _ => hd a ha⟩) hz
  rw [this, List.filter_eq_self.mpr fun _ _ => rfl]
/-- two names -/
theorem lc_p {α : Type} (l : List α) {s : IS} {t : BS} {e : ES} {i j : Nat} {ρ : Env'} {x y : Option Slot} (X Y : α → D) (p : α → Bool) (g : α → D) (hs : s ρ = some (.ok (l.map fun a => .tuple [X a, Y a]) ρ)) (hx : ρ[i]? = some x) (hy : ρ[j]? = some y) (hf : Free x) (hf2 : Free y) (hij : i ≠ j)
    (hd : ∀ a ∈ l, t ((ρ.set i (some (.val (.dat (X a))))).set j (some (.val (.dat (Y a))))) = some (.ok (p a) ((ρ.set i (some (.val (.dat (X a))))).set j (some (.val (.dat (Y a)))))) ∧
      (p a = true → e ((ρ.set i (some (.val (.dat (X a))))).set j (some (.val (.dat (Y a))))) = some (.ok (.dat (g a)) ((ρ.set i (some (.val (.dat (X a))))).set j (some (.val (.dat (Y a)))))))) (hz : l.length ≤ lim) :
    lcS s (tupN [i, j]) t e [i, j] ρ = some (.ok (.fresh (.lst ((l.filter p).map g))) ρ) := by
  have hi : i < ρ.length := (List.getElem?_eq_some_iff.mp hx).1
  have hj : j < ρ.length := (List.getElem?_eq_some_iff.mp hy).1
  have w : ∀ ρ : Env', wipeE ρ [i, j] = (ρ.set j none).set i none := fun _ => rfl
  refine lc_f l (fun a => .tuple [X a, Y a]) p g hs (free_all fun k hk => ?_) rfl ?_ (fun a ha => ?_) hz
  · simp only [List.mem_cons, List.not_mem_nil, or_false] at hk
    rcases hk with rfl | rfl
    · exact ⟨x, hx, hf⟩
    · exact ⟨y, hy, hf2⟩
  · show ((wipeE ρ [i, j]).set j (ρ.getD j none)).set i (ρ.getD i none) = ρ
    have ex : ρ.getD i none = x := by simp [List.getD_eq_getElem?_getD, hx]
    have ey : ρ.getD j none = y := by simp [List.getD_eq_getElem?_getD, hy]
    rw [ex, ey, w, List.set_comm _ _ (Ne.symm hij), List.set_set, List.set_comm _ _ hij, List.set_set, set_back hy, set_back hx]
  · obtain ⟨h1, h2⟩ := hd a ha
    refine ⟨_, ?_, h1, h2, ?_⟩
    · rw [w]
      have e1 : ((ρ.set j none).set i none)[i]? = some none := by simp [hi]
      have s1 : storeW false i (.dat (X a)) ((ρ.set j none).set i none) = some (((ρ.set j none).set i none).set i (some (.val (.dat (X a))))) := store_free e1 rfl
      have e2 : (((ρ.set j none).set i none).set i (some (.val (.dat (X a)))))[j]? = some none := by simp [hj, hij]
      have s2 : storeW false j (.dat (Y a)) (((ρ.set j none).set i none).set i (some (.val (.dat (X a))))) = some ((((ρ.set j none).set i none).set i (some (.val (.dat (X a))))).set j (some (.val (.dat (Y a))))) := store_free e2 rfl
      have e3 : (((ρ.set j none).set i none).set i (some (.val (.dat (X a))))).set j (some (.val (.dat (Y a)))) = (ρ.set i (some (.val (.dat (X a))))).set j (some (.val (.dat (Y a)))) := by
        rw [List.set_set, List.set_comm _ _ (Ne.symm hij), List.set_set]
      rw [e3] at s2
      show (match storeAll [(i, false), (j, false)] [.dat (X a), .dat (Y a)] ((ρ.set j none).set i none) with
        | some ρ' => some (O.nx ρ')
        | none => none) = _
      simp only [storeAll, s1, s2]
    · rw [w, w, List.set_set, List.set_comm _ _ hij, List.set_set, List.set_comm _ _ (Ne.symm hij)]
theorem lc_pm {α : Type} (l : List α) {s : IS} {e : ES} {i j : Nat} {ρ : Env'} {x y : Option Slot} (X Y : α → D) (g : α → D) (hs : s ρ = some (.ok (l.map fun a => .tuple [X a, Y a]) ρ)) (hx : ρ[i]? = some x) (hy : ρ[j]? = some y) (hf : Free x) (hf2 : Free y) (hij : i ≠ j)
    (hd : ∀ a ∈ l, e ((ρ.set i (some (.val (.dat (X a))))).set j (some (.val (.dat (Y a))))) = some (.ok (.dat (g a)) ((ρ.set i (some (.val (.dat (X a))))).set j (some (.val (.dat (Y a))))))) (hz : l.length ≤ lim) :
    lcS s (tupN [i, j]) yesS e [i, j] ρ = some (.ok (.fresh (.lst (l.map g))) ρ) := by
  have := lc_p (t := yesS) l X Y (fun _ => true) g hs hx hy hf hf2 hij (fun a ha => ⟨rfl, fun _ => hd a ha⟩) hz
  rw [this, List.filter_eq_self.mpr fun _ _ => rfl]
theorem map_int {α : Type} (h : α → Int) (l : List α) : (l.map fun a => PyData.int (h a)) = (l.map h).map PyData.int := by simp [List.map_map, Function.comp_def]
theorem map_bool {α : Type} (h : α → Bool) (l : List α) : (l.map fun a => PyData.bool (h a)) = (l.map h).map PyData.bool := by simp [List.map_map, Function.comp_def]
theorem gMul_rep {d : D} {k : Int} (ρ : Env') (h0 : 0 ≤ k) (h1 : k ≤ 1000000) : gMul (.fresh (.lst [d])) (.dat (.int k)) ρ = some (.ok (.fresh (.lst (List.replicate k.toNat d))) ρ) := by
  have e : (List.replicate k.toNat [d]).flatten = List.replicate k.toNat d := by
    generalize k.toNat = n
    induction n with
    | zero => rfl
    | succ n ih => rw [List.replicate_succ, List.flatten_cons, ih]; rfl
  have h2 : repC k [d].length = true := decide_eq_true ⟨by omega, by omega, by simp [lim]; omega⟩
  have z : d2 (iF mulC fun i j => PyData.int (i * j)) (W.fresh (Cell.lst [d])) (W.dat (.int k)) ρ = none := rfl
  unfold gMul
  rw [z]
  show gRep (W.fresh (Cell.lst [d])) (W.dat (.int k)) ρ = _
  unfold gRep
  simp only [view_fresh_lst, view_dat, h2, if_true, e]
open Classical in
/-- what a proposition is worth -/
noncomputable def bl (p : Prop) : Bool := decide p
theorem bl_eq {p : Prop} {b : Bool} (h : b = true ↔ p) : b = bl p := by
  unfold bl
  cases b with
  | true => exact (@decide_eq_true _ (Classical.propDecidable _) (h.mp rfl)).symm
  | false => exact (@decide_eq_false _ (Classical.propDecidable _) fun z => Bool.false_ne_true (h.mpr z)).symm
theorem bl_true {p : Prop} (h : p) : bl p = true := (bl_eq (b := true) ⟨fun _ => h, fun _ => rfl⟩).symm
theorem bl_iff {p : Prop} : bl p = true ↔ p := by
  unfold bl
  exact @decide_eq_true_iff _ (Classical.propDecidable _)
end Py

namespace Py
open PySem PySem.Spec PyProof.Rows L2
/-- a loop that folds, where something holds of what it folds -/
theorem for_foldJ {α β : Type} {f : TgF} {b : SS} (D' : α → D) (mk : β → Option Slot → Env') (step : β → α → β) (J : β → Prop) : ∀ (l : List α), (∀ a ∈ l, ∀ acc x, J acc → Free x → J (step acc a) ∧ ∃ y, Free y ∧ (seqS (f (D' a)) b (mk acc x) = some (.nx (mk (step acc a) y)) ∨ seqS (f (D' a)) b (mk acc x) = some (.ct (mk (step acc a) y)))) →
    ∀ acc x, J acc → Free x → ∃ y, Free y ∧ J (l.foldl step acc) ∧ forL f b (l.map D') (mk acc x) = some (.nx (mk (l.foldl step acc) y))
  | [], hd, acc, x, hj, hx => ⟨x, hx, hj, rfl⟩
  | a :: l, hd, acc, x, hj, hx => by
    obtain ⟨hj', y, hy, e⟩ := hd a (by simp) acc x hj hx
    obtain ⟨z, hz, hj2, e2⟩ := for_foldJ D' mk step J l (fun b hb => hd b (by simp [hb])) (step acc a) y hj' hy
    refine ⟨z, hz, hj2, ?_⟩
    rw [List.map_cons]
    unfold forL
    rcases e with e | e <;> simp only [e, e2, List.foldl_cons]
/-- .. with names that are not folded, kept free -/
theorem for_runJ {α β : Type} {f : TgF} {b : SS} (D' : α → D) (mk : β → Option Slot → Option Slot → Env') (p : β → α → Bool) (step : β → α → β) (J : β → Prop) (r : W) : ∀ (l : List α), (∀ a ∈ l, ∀ acc x y, J acc → Free x → Free y → (p acc a = true ∧ ∃ ρ', seqS (f (D' a)) b (mk acc x y) = some (.ret r ρ') ∧ ∃ acc' x' y', ρ' = mk acc' x' y') ∨ (p acc a = false ∧ J (step acc a) ∧ ∃ x' y', Free x' ∧ Free y' ∧ seqS (f (D' a)) b (mk acc x y) = some (.nx (mk (step acc a) x' y')))) →
    ∀ acc x y, J acc → Free x → Free y → (runP p step acc l = none ∧ ∃ acc' x' y', forL f b (l.map D') (mk acc x y) = some (.ret r (mk acc' x' y'))) ∨ (∃ acc', runP p step acc l = some acc' ∧ J acc' ∧ ∃ x' y', Free x' ∧ Free y' ∧ forL f b (l.map D') (mk acc x y) = some (.nx (mk acc' x' y')))
  | [], _, acc, x, y, hj, hx, hy => .inr ⟨acc, rfl, hj, x, y, hx, hy, rfl⟩
  | a :: l, hd, acc, x, y, hj, hx, hy => by
    rw [List.map_cons]
    rcases hd a (by simp) acc x y hj hx hy with ⟨h1, ρ', e, acc', x', y', rfl⟩ | ⟨h1, hj', x', y', hx', hy', e⟩
    · refine .inl ⟨by simp only [runP, h1, if_true], acc', x', y', ?_⟩
      unfold forL
      simp only [e]
    · have := for_runJ D' mk p step J r l (fun b hb => hd b (by simp [hb])) (step acc a) x' y' hj' hx' hy'
      unfold forL
      simp only [e, runP, h1, Bool.false_eq_true, if_false]
      exact this
end Py

namespace Py
open PySem PySem.Spec PyProof.Rows L2
/-! ### in and not in, of a tuple too -/
section
variable {X : Cx} {Wx : WX}
def rInDT (K : PySem.W.Frag) : R2 := fun x y H Q => ∃ d ds, Dp K H x d ∧ Dp K H y (.tuple ds) ∧ SeqAt.shaped d = true ∧ SeqAt.shaped (.tuple ds) = true ∧ Q (.bl (ds.any fun z => PyData.eqv z d)) H
def rNotInDT (K : PySem.W.Frag) : R2 := fun x y H Q => ∃ d ds, Dp K H x d ∧ Dp K H y (.tuple ds) ∧ SeqAt.shaped d = true ∧ SeqAt.shaped (.tuple ds) = true ∧ Q (.bl (!ds.any fun z => PyData.eqv z d)) H
theorem op_inDT (hu : X.A.units + 65 < cLine) : OpR X (compareOp .In) (rInDT X.K) := by
  intro pins s σ H x y v u Q I rx ry h
  obtain ⟨d, ds, hd, he, sd, se, q⟩ := h
  obtain ⟨as, r1⟩ := Dp.reads I d x v hd rx
  obtain ⟨bs, r2⟩ := Dp.reads I (.tuple ds) y u he ry
  have hc : PyData.canLayAll0 ds = true := by simpa [PyData.canLay0] using SeqAt.canLay_of_shaped se
  refine SeqAt.in_tuple_reads r2 r1 hc (SeqAt.canLay_of_shaped sd) ?_ ⟨.bl _, H, I, rfl, q⟩
  have := SeqAt.depth_of_shaped sd
  have : min (PyData.depthAll ds) d.depth ≤ d.depth := Nat.min_le_right _ _
  omega
theorem op_notInDT (hu : X.A.units + 65 < cLine) : OpR X (compareOp .NotIn) (rNotInDT X.K) := by
  intro pins s σ H x y v u Q I rx ry h
  obtain ⟨d, ds, hd, he, sd, se, q⟩ := h
  obtain ⟨as, r1⟩ := Dp.reads I d x v hd rx
  obtain ⟨bs, r2⟩ := Dp.reads I (.tuple ds) y u he ry
  have hc : PyData.canLayAll0 ds = true := by simpa [PyData.canLay0] using SeqAt.canLay_of_shaped se
  refine SeqAt.notIn_tuple_reads r2 r1 hc (SeqAt.canLay_of_shaped sd) ?_ ⟨.bl _, H, I, rfl, q⟩
  have := SeqAt.depth_of_shaped sd
  have : min (PyData.depthAll ds) d.depth ≤ d.depth := Nat.min_le_right _ _
  omega
def inTF (f : Bool → Bool) : D → D → Option D := fun a b => match b with
  | .tuple ds => if SeqAt.shaped a && SeqAt.shaped (.tuple ds) then some (.bool (f (ds.any fun z => PyData.eqv z a))) else none
  | _ => none
def gInT : W → W → Env' → Option (R W) := fun a b ρ => match gIn a b ρ with
  | some o => some o
  | none => d2 (inTF id) a b ρ
def gNotInT : W → W → Env' → Option (R W) := fun a b ρ => match gNotIn a b ρ with
  | some o => some o
  | none => d2 (inTF not) a b ρ
theorem so_inT (hu : X.A.units + 65 < cLine) : SemOp X Wx (compareOp .In) gInT := by
  obtain ⟨r, h1, h2⟩ := so_in (X := X) (Wx := Wx) hu
  exact ⟨_, h1.or (op_inDT hu), h2.or (sem2_d fun G H x y a b d Q e ra rb h k => by
    unfold inTF at h
    split at h
    · split at h
      · rename_i hs
        cases h
        rw [Bool.and_eq_true] at hs
        exact ⟨a, _, (ra.rep e).dp (SeqAt.canLay_of_shaped hs.1), (rb.rep e).dp (SeqAt.canLay_of_shaped hs.2), hs.1, hs.2, k _ (.bl _)⟩
      · cases h
    · cases h)⟩
theorem so_notInT (hu : X.A.units + 65 < cLine) : SemOp X Wx (compareOp .NotIn) gNotInT := by
  obtain ⟨r, h1, h2⟩ := so_notIn (X := X) (Wx := Wx) hu
  exact ⟨_, h1.or (op_notInDT hu), h2.or (sem2_d fun G H x y a b d Q e ra rb h k => by
    unfold inTF at h
    split at h
    · split at h
      · rename_i hs
        cases h
        rw [Bool.and_eq_true] at hs
        exact ⟨a, _, (ra.rep e).dp (SeqAt.canLay_of_shaped hs.1), (rb.rep e).dp (SeqAt.canLay_of_shaped hs.2), hs.1, hs.2, k _ (.bl _)⟩
      · cases h
    · cases h)⟩
end
theorem d2_inTF_list (f : Bool → Bool) (a : W) (ds : List D) (ρ : Env') : d2 (inTF f) a (.dat (.list ds)) ρ = none := by
  show (match view ρ a with
    | some x => _
    | none => _) = none
  cases view ρ a <;> rfl
@[simp] theorem gInT_list {ρ : Env'} {a : W} {ds : List D} : gInT a (.dat (.list ds)) ρ = gIn a (.dat (.list ds)) ρ := by
  unfold gInT
  rw [d2_inTF_list]
  cases gIn a (.dat (.list ds)) ρ <;> rfl
@[simp] theorem gNotInT_list {ρ : Env'} {a : W} {ds : List D} : gNotInT a (.dat (.list ds)) ρ = gNotIn a (.dat (.list ds)) ρ := by
  unfold gNotInT
  rw [d2_inTF_list]
  cases gNotIn a (.dat (.list ds)) ρ <;> rfl
@[simp] theorem gInT_freshL {ρ : Env'} {a : W} {ds : List D} : gInT a (.fresh (.lst ds)) ρ = gIn a (.fresh (.lst ds)) ρ := by
  unfold gInT
  have : d2 (inTF id) a (.fresh (.lst ds)) ρ = none := by
    show (match view ρ a with
      | some x => _
      | none => _) = none
    cases view ρ a <;> rfl
  rw [this]
  cases gIn a (.fresh (.lst ds)) ρ <;> rfl
@[simp] theorem gNotInT_freshL {ρ : Env'} {a : W} {ds : List D} : gNotInT a (.fresh (.lst ds)) ρ = gNotIn a (.fresh (.lst ds)) ρ := by
  unfold gNotInT
  have : d2 (inTF not) a (.fresh (.lst ds)) ρ = none := by
    show (match view ρ a with
      | some x => _
      | none => _) = none
    cases view ρ a <;> rfl
  rw [this]
  cases gNotIn a (.fresh (.lst ds)) ρ <;> rfl
theorem gInT_of {ρ : Env'} {a b : W} {x : D} {ds : List D} (ha : view ρ a = some x) (hb : view ρ b = some (.list ds)) (hx : SeqAt.shaped x = true) (hy : SeqAt.shaped (.list ds) = true) : gInT a b ρ = some (.ok (.dat (.bool (ds.any fun z => PyData.eqv z x))) ρ) := by
  unfold gInT
  rw [gIn_of ha hb hx hy]
theorem gNotInT_of {ρ : Env'} {a b : W} {x : D} {ds : List D} (ha : view ρ a = some x) (hb : view ρ b = some (.list ds)) (hx : SeqAt.shaped x = true) (hy : SeqAt.shaped (.list ds) = true) : gNotInT a b ρ = some (.ok (.dat (.bool (!ds.any fun z => PyData.eqv z x))) ρ) := by
  unfold gNotInT
  rw [gNotIn_of ha hb hx hy]
theorem gInT_tup {ρ : Env'} {a b : W} {x : D} {ds : List D} (ha : view ρ a = some x) (hb : view ρ b = some (.tuple ds)) (hx : SeqAt.shaped x = true) (hy : SeqAt.shaped (.tuple ds) = true) : gInT a b ρ = some (.ok (.dat (.bool (ds.any fun z => PyData.eqv z x))) ρ) := by simp [gInT, gIn, inF, inTF, ha, hb, hx, hy]
theorem gNotInT_tup {ρ : Env'} {a b : W} {x : D} {ds : List D} (ha : view ρ a = some x) (hb : view ρ b = some (.tuple ds)) (hx : SeqAt.shaped x = true) (hy : SeqAt.shaped (.tuple ds) = true) : gNotInT a b ρ = some (.ok (.dat (.bool (!ds.any fun z => PyData.eqv z x))) ρ) := by simp [gNotInT, gNotIn, inF, inTF, ha, hb, hx, hy]
@[simp] theorem gInT_ints (ρ : Env') (i : Int) (ns : List Int) : gInT (.dat (.int i)) (.dat (.tuple (ns.map PyData.int))) ρ = some (.ok (.dat (.bool (decide (i ∈ ns)))) ρ) := by
  have h : SeqAt.shaped (.tuple (ns.map PyData.int)) = true := by
    have h : SeqAt.shaped (.list (ns.map PyData.int)) = true := by simp
    simpa [SeqAt.shaped, PyData.canLay0, PyData.depth] using h
  rw [gInT_tup rfl rfl (by simp) h, Py.any_ints]
@[simp] theorem gNotInT_ints (ρ : Env') (i : Int) (ns : List Int) : gNotInT (.dat (.int i)) (.dat (.tuple (ns.map PyData.int))) ρ = some (.ok (.dat (.bool (!decide (i ∈ ns)))) ρ) := by
  have h : SeqAt.shaped (.tuple (ns.map PyData.int)) = true := by
    have h : SeqAt.shaped (.list (ns.map PyData.int)) = true := by simp
    simpa [SeqAt.shaped, PyData.canLay0, PyData.depth] using h
  rw [gNotInT_tup rfl rfl (by simp) h, Py.any_ints]
/-- a string whose signs can be laid -/
def StrOk (x : Str) : Prop := SeqAt.shaped (.str x) = true
theorem gInT_two {x a b : Str} {ρ : Env'} (h : StrOk x) (ha : StrOk a := by decide +kernel) (hb : StrOk b := by decide +kernel) : gInT (.dat (.str x)) (.dat (.tuple [.str a, .str b])) ρ = some (.ok (.dat (.bool (a == x || b == x))) ρ) := by
  rw [gInT_tup rfl rfl h ?_]
  · simp [PyData.eqv]
  · unfold StrOk at ha hb
    simp [SeqAt.shaped, PyData.canLay0, PyData.canLayAll0, PyData.depth, PyData.depthAll] at *
    exact ⟨ha, hb⟩
theorem gNotInT_two {x a b : Str} {ρ : Env'} (h : StrOk x) (ha : StrOk a := by decide +kernel) (hb : StrOk b := by decide +kernel) : gNotInT (.dat (.str x)) (.dat (.tuple [.str a, .str b])) ρ = some (.ok (.dat (.bool !(a == x || b == x))) ρ) := by
  rw [gNotInT_tup rfl rfl h ?_]
  · simp [PyData.eqv]
  · unfold StrOk at ha hb
    simp [SeqAt.shaped, PyData.canLay0, PyData.canLayAll0, PyData.depth, PyData.depthAll] at *
    exact ⟨ha, hb⟩
instance (x : Str) : Decidable (StrOk x) := inferInstanceAs (Decidable (_ = true))
example : StrOk "lay" := by decide +kernel
/-! ### more of loops -/
theorem for_foldJ2 {α β : Type} {f : TgF} {b : SS} (D' : α → D) (mk : β → Option Slot → Option Slot → Env') (step : β → α → β) (J : β → Prop) : ∀ (l : List α), (∀ a ∈ l, ∀ acc x y, J acc → Free x → Free y → J (step acc a) ∧ ∃ x' y', Free x' ∧ Free y' ∧ (seqS (f (D' a)) b (mk acc x y) = some (.nx (mk (step acc a) x' y')) ∨ seqS (f (D' a)) b (mk acc x y) = some (.ct (mk (step acc a) x' y')))) →
    ∀ acc x y, J acc → Free x → Free y → ∃ x' y', Free x' ∧ Free y' ∧ J (l.foldl step acc) ∧ forL f b (l.map D') (mk acc x y) = some (.nx (mk (l.foldl step acc) x' y'))
  | [], hd, acc, x, y, hj, hx, hy => ⟨x, y, hx, hy, hj, rfl⟩
  | a :: l, hd, acc, x, y, hj, hx, hy => by
    obtain ⟨hj', x', y', hx', hy', e⟩ := hd a (by simp) acc x y hj hx hy
    obtain ⟨z, z', hz, hz', hj2, e2⟩ := for_foldJ2 D' mk step J l (fun b hb => hd b (by simp [hb])) (step acc a) x' y' hj' hx' hy'
    refine ⟨z, z', hz, hz', hj2, ?_⟩
    rw [List.map_cons]
    unfold forL
    rcases e with e | e <;> simp only [e, e2, List.foldl_cons]
theorem runP_any {α β : Type} (q : α → Bool) (step : β → α → β) : ∀ (l : List α) (acc : β), runP (fun _ a => q a) step acc l = if l.any q then none else some (l.foldl step acc)
  | [], acc => rfl
  | a :: l, acc => by
    simp only [runP, List.any_cons, List.foldl_cons]
    have ih := runP_any q step l (step acc a)
    by_cases h : q a = true
    · simp [h]
    · simp [h, ih]
def getR (rs : List (List Int)) (i : Nat) : List Int := rs.getD i []
theorem getR_mem {rs : List (List Int)} {i : Nat} (h : i < rs.length) : getR rs i ∈ rs := by
  unfold getR
  rw [List.getD_eq_getElem?_getD, List.getElem?_eq_getElem h]
  exact List.getElem_mem h
theorem gIx_rows {ρ : Env'} {rs : List (List Int)} {i : Int} (h0 : 0 ≤ i) (h1 : i < (rs.length : Nat)) : gIx (.dat (.list (rs.map rowD))) (.dat (.int i)) ρ = some (.ok (.dat (rowD (getR rs i.toNat))) ρ) := by
  have h2 : i.toNat < rs.length := by omega
  rw [gIx_at]
  simp [atI_map, atI_get h0 h2, getR, h2, List.getD_eq_getElem?_getD]
/-- a comprehension that takes every one, with a state that changes -/
theorem lc_invA {s : IS} {e : ES} {i : Nat} {ρ ρ0 : Env'} {ds : List D} {x : Option Slot} (I : Env' → Prop) (Pr : D → Prop) (hs : s ρ = some (.ok ds ρ0)) (hx : ρ0[i]? = some x) (hf : Free x) (h0 : I (ρ0.set i none)) (hl : ∀ ρ, I ρ → ρ[i]? = some none)
    (hd : ∀ d ∈ ds, ∀ ρ1, I ρ1 → ∃ d' ρ3, e (ρ1.set i (some (.val (.dat d)))) = some (.ok (.dat d') ρ3) ∧ Pr d' ∧ I (ρ3.set i none)) (hz : ds.length ≤ lim) :
    ∃ r ρ', lcS s (nmG i) yesS e [i] ρ = some (.ok (.fresh (.lst r)) (ρ'.set i x)) ∧ I ρ' ∧ r.length = ds.length ∧ ∀ d ∈ r, Pr d := by
  have fr : freeE ρ0 [i] = true := by
    simp only [freeE, List.all_cons, List.all_nil, Bool.and_true, List.getD_eq_getElem?_getD, hx, Option.getD_some]
    rcases hf with rfl | ⟨w, rfl⟩ <;> rfl
  have main : ∀ (ds : List D) (n : Nat) (ρ1 : Env'), n + ds.length ≤ lim → I ρ1 → (∀ d ∈ ds, ∀ ρ1, I ρ1 → ∃ d' ρ3, e (ρ1.set i (some (.val (.dat d)))) = some (.ok (.dat d') ρ3) ∧ Pr d' ∧ I (ρ3.set i none)) →
      ∃ r ρ', lcL (nmG i) yesS e [i] n ds ρ1 = some (.ok r ρ') ∧ I ρ' ∧ r.length = ds.length ∧ ∀ d ∈ r, Pr d := by
    intro ds
    induction ds with
    | nil => intro n ρ1 _ h _; exact ⟨[], ρ1, rfl, h, rfl, by simp⟩
    | cons d ds ih =>
      intro n ρ1 hn h hd
      obtain ⟨d', ρ3, k1, k2, k3⟩ := hd d (by simp) ρ1 h
      have en : nmG i d ρ1 = some (.nx (ρ1.set i (some (.val (.dat d))))) := nmG_free d (hl ρ1 h) free_none
      simp only [List.length_cons] at hn
      obtain ⟨r, ρ', e1, e2, e3, e4⟩ := ih (n + 1) (ρ3.set i none) (by omega) k3 fun x hx => hd x (by simp [hx])
      refine ⟨d' :: r, ρ', ?_, e2, by simp [e3], fun x hx => ?_⟩
      · unfold lcL
        have hlt : n < lim := by omega
        have ey : ∀ ρ, yesS ρ = some (.ok true ρ) := fun _ => rfl
        simp only [en, ey, k1, wipe_one, e1]
        simp [hlt]
      · rcases List.mem_cons.mp hx with rfl | hx
        · exact k2
        · exact e4 x hx
  obtain ⟨r, ρ', e1, e2, e3⟩ := main ds 0 (ρ0.set i none) (by omega) h0 hd
  refine ⟨r, ρ', ?_, e2, e3⟩
  unfold lcS
  rw [hs]
  simp only [bnd_some_ok, fr, if_true, wipe_one, e1]
  simp [keepE, hx]
theorem gAdd_ss {a b : Str} {ρ : Env'} (h : a.length + b.length ≤ lim) : gAdd (.dat (.str a)) (.dat (.str b)) ρ = some (.ok (.dat (.str (a ++ b))) ρ) := by
  simp [gAdd, gCat, gCatT, gCatS, iF, sF, h]
theorem rngI_ok {F : List W → Env' → Option (R (List D))} {sa : AS} {ρ ρ' : Env'} {ws : List W} (h : sa ρ = some (.ok ws ρ')) : rngI F sa ρ = F ws ρ' := by
  unfold rngI
  rw [h]
  rfl
/-- range(len(..)): by hand, for the kernel counts down a cast Nat less a big literal -/
theorem rngI_len {sa : AS} {ρ ρ' : Env'} {n : Nat} (h : sa ρ = some (.ok [.dat (.int (n : Nat))] ρ')) (hn : n ≤ 1000000) : rngI rng1F sa ρ = some (.ok ((List.range n).map fun i : Nat => .int (i : Nat)) ρ') := by
  obtain ⟨N, hN⟩ : ∃ N : Int, N = (n : Nat) := ⟨_, rfl⟩
  rw [← hN] at h
  have e2 := rng1_map (j := N) (ρ := ρ') (by omega) (by omega)
  have e3 : N.toNat = n := by omega
  rw [rngI_ok h, e2, e3]
end Py

namespace Py
open PySem PySem.Spec PyProof.Rows L2
theorem bitAnd_nat (a b : Nat) : Builtin.bitAnd (a : Int) (b : Int) = ((a &&& b : Nat) : Int) := by
  have d1 : decide (0 ≤ (b : Int)) = true := decide_eq_true (by omega)
  have d2 : decide (0 ≤ (a : Int)) = true := decide_eq_true (by omega)
  unfold Builtin.bitAnd
  rw [d1, d2]
  simp
/-- a loop that ends at the first that fits -/
theorem for_findF {α : Type} {f : TgF} {b : SS} (D' : α → D) (mk : Option Slot → Option Slot → Env') (p : α → Bool) (r : α → W) : ∀ (l : List α), (∀ a ∈ l, ∀ x y, Free x → Free y → (p a = true ∧ ∃ x' y', seqS (f (D' a)) b (mk x y) = some (.ret (r a) (mk x' y'))) ∨ (p a = false ∧ ∃ x' y', Free x' ∧ Free y' ∧ (seqS (f (D' a)) b (mk x y) = some (.nx (mk x' y')) ∨ seqS (f (D' a)) b (mk x y) = some (.ct (mk x' y'))))) →
    ∀ x y, Free x → Free y → (∃ a, l.find? p = some a ∧ ∃ x' y', forL f b (l.map D') (mk x y) = some (.ret (r a) (mk x' y'))) ∨ (l.find? p = none ∧ ∃ x' y', Free x' ∧ Free y' ∧ forL f b (l.map D') (mk x y) = some (.nx (mk x' y')))
  | [], _, x, y, hx, hy => .inr ⟨rfl, x, y, hx, hy, rfl⟩
  | a :: l, hd, x, y, hx, hy => by
    rw [List.map_cons]
    rcases hd a (by simp) x y hx hy with ⟨h1, x', y', e⟩ | ⟨h1, x', y', hx', hy', e⟩
    · refine .inl ⟨a, by simp [h1], x', y', ?_⟩
      unfold forL
      simp only [e]
    · rcases for_findF D' mk p r l (fun b hb => hd b (by simp [hb])) x' y' hx' hy' with ⟨c, h2, x2, y2, e2⟩ | ⟨h2, x2, y2, hx2, hy2, e2⟩
      · refine .inl ⟨c, by simp [h1, h2], x2, y2, ?_⟩
        unfold forL
        rcases e with e | e <;> simp only [e, e2]
      · refine .inr ⟨by simp [h1, h2], x2, y2, hx2, hy2, ?_⟩
        unfold forL
        rcases e with e | e <;> simp only [e, e2]
/-- a while that may return within -/
theorem whileL_measR {c : BS} {b : SS} (I : Nat → Env' → Prop) (Q : O → Prop) (h : ∀ k ρ, I k ρ → (∃ ρ1, c ρ = some (.ok false ρ1) ∧ Q (.nx ρ1)) ∨ (∃ ρ1, c ρ = some (.ok true ρ1) ∧ ((∃ w ρ2, b ρ1 = some (.ret w ρ2) ∧ Q (.ret w ρ2)) ∨ ∃ ρ2 k', b ρ1 = some (.nx ρ2) ∧ k' < k ∧ I k' ρ2))) :
    ∀ (n k : Nat) (ρ : Env'), k < n → I k ρ → ∃ o, whileL c b n ρ = some o ∧ Q o
  | 0, _, _, hk, _ => absurd hk (Nat.not_lt_zero _)
  | n + 1, k, ρ, hk, hi => by
    rcases h k ρ hi with ⟨ρ1, h1, h2⟩ | ⟨ρ1, h1, ⟨w, ρ2, h2, h3⟩ | ⟨ρ2, k', h2, h3, h4⟩⟩
    · refine ⟨_, ?_, h2⟩
      unfold whileL
      simp [h1]
    · refine ⟨_, ?_, h3⟩
      unfold whileL
      simp [h1, h2]
    · obtain ⟨o, h5, h6⟩ := whileL_measR I Q h n k' ρ2 (by omega) h4
      refine ⟨o, ?_, h6⟩
      unfold whileL
      simp [h1, h2, h5]
theorem seq_nx {s t : SS} {ρ ρ' : Env'} (h : s ρ = some (.nx ρ')) : seqS s t ρ = t ρ' := by
  rw [seqS_at, h]
theorem for_at {s : IS} {f : TgF} {b : SS} {ρ ρ' : Env'} {ds : List D} (h : s ρ = some (.ok ds ρ')) : forS s f b ρ = forL f b ds ρ' := by
  rw [forS_at, h]
  rfl
theorem eqv_self {d : D} (h : SeqAt.shaped d = true) : PyData.eqv d d = true := by
  simp only [SeqAt.shaped, Bool.and_eq_true] at h
  exact PySem.SeqAt.eqv_refl d h.1
theorem canLay_of {d : D} (h : SeqAt.shaped d = true) : d.canLay0 = true := by
  simp only [SeqAt.shaped, Bool.and_eq_true] at h
  exact h.1
theorem canLayAll_of : ∀ {ds : List D}, (∀ d ∈ ds, d.canLay0 = true) → PyData.canLayAll0 ds = true
  | [], _ => rfl
  | d :: ds, h => by
    simp only [PyData.canLayAll0, Bool.and_eq_true]
    exact ⟨h d (by simp), canLayAll_of fun x hx => h x (by simp [hx])⟩
theorem depthAll_of {k : Nat} : ∀ {ds : List D}, (∀ d ∈ ds, d.depth ≤ k) → PyData.depthAll ds ≤ k
  | [], _ => Nat.zero_le _
  | d :: ds, h => by
    simp only [PyData.depthAll]
    have := h d (by simp)
    have := depthAll_of (k := k) (ds := ds) fun x hx => h x (by simp [hx])
    omega
/-- a shape with its depth -/
def Sh (k : Nat) (d : D) : Prop := d.canLay0 = true ∧ d.depth ≤ k
theorem Sh.mono {k m : Nat} {d : D} (h : Sh k d) (hm : k ≤ m) : Sh m d := ⟨h.1, Nat.le_trans h.2 hm⟩
theorem Sh.shaped {k : Nat} {d : D} (h : Sh k d) (hk : k ≤ 64) : SeqAt.shaped d = true := by
  simp only [SeqAt.shaped, Bool.and_eq_true, decide_eq_true_eq]
  exact ⟨h.1, Nat.le_trans h.2 hk⟩
theorem sh_int (i : Int) : Sh 0 (.int i) := ⟨rfl, by simp [PyData.depth]⟩
theorem sh_bool (b : Bool) : Sh 0 (.bool b) := ⟨rfl, by simp [PyData.depth]⟩
theorem sh_none : Sh 0 .none := ⟨rfl, by simp [PyData.depth]⟩
theorem sh_list {k : Nat} {ds : List D} (h : ∀ d ∈ ds, Sh k d) : Sh (k + 1) (.list ds) := by
  refine ⟨?_, ?_⟩
  · simp only [PyData.canLay0]
    exact canLayAll_of fun d hd => (h d hd).1
  · have := depthAll_of fun d hd => (h d hd).2
    simp only [PyData.depth]
    omega
theorem sh_tuple {k : Nat} {ds : List D} (h : ∀ d ∈ ds, Sh k d) : Sh (k + 1) (.tuple ds) := by
  refine ⟨?_, ?_⟩
  · simp only [PyData.canLay0]
    exact canLayAll_of fun d hd => (h d hd).1
  · have := depthAll_of fun d hd => (h d hd).2
    simp only [PyData.depth]
    omega
theorem sh_ints (ns : List Int) : Sh 1 (.list (ns.map PyData.int)) := sh_list fun d hd => by
  obtain ⟨n, _, rfl⟩ := List.mem_map.mp hd
  exact sh_int n
theorem sh_intsT (ns : List Int) : Sh 1 (.tuple (ns.map PyData.int)) := sh_tuple fun d hd => by
  obtain ⟨n, _, rfl⟩ := List.mem_map.mp hd
  exact sh_int n
theorem sh_str {x : Str} (h : SeqAt.shaped (.str x) = true) : Sh 0 (.str x) := ⟨canLay_of h, by simp [PyData.depth]⟩
theorem gNe_self {a b : W} {ρ : Env'} {d : D} (ha : view ρ a = some d) (hb : view ρ b = some d) (h : SeqAt.shaped d = true) : gNe a b ρ = some (.ok (.dat (.bool false)) ρ) := by
  rw [gNe_of ha hb h h, eqv_self h]
  rfl
theorem gEq_self {a b : W} {ρ : Env'} {d : D} (ha : view ρ a = some d) (hb : view ρ b = some d) (h : SeqAt.shaped d = true) : gEq a b ρ = some (.ok (.dat (.bool true)) ρ) := by
  rw [gEq_of ha hb h h, eqv_self h]
end Py

namespace Py
open PySem PySem.Spec PyProof.Rows L2
/-- a loop that ends at the first that fits; the state by an invariant -/
theorem for_findI {α : Type} {f : TgF} {b : SS} (D' : α → D) (I : Env' → Prop) (p : α → Bool) (r : α → W) : ∀ (l : List α), (∀ a ∈ l, ∀ ρ, I ρ → (p a = true ∧ ∃ ρ', seqS (f (D' a)) b ρ = some (.ret (r a) ρ')) ∨ (p a = false ∧ ∃ ρ', I ρ' ∧ (seqS (f (D' a)) b ρ = some (.nx ρ') ∨ seqS (f (D' a)) b ρ = some (.ct ρ')))) →
    ∀ ρ, I ρ → (∃ a, l.find? p = some a ∧ ∃ ρ', forL f b (l.map D') ρ = some (.ret (r a) ρ')) ∨ (l.find? p = none ∧ ∃ ρ', I ρ' ∧ forL f b (l.map D') ρ = some (.nx ρ'))
  | [], _, ρ, h => .inr ⟨rfl, ρ, h, rfl⟩
  | a :: l, hd, ρ, h => by
    rw [List.map_cons]
    rcases hd a (by simp) ρ h with ⟨h1, ρ', e⟩ | ⟨h1, ρ', h', e⟩
    · refine .inl ⟨a, by simp [h1], ρ', ?_⟩
      unfold forL
      simp only [e]
    · rcases for_findI D' I p r l (fun b hb => hd b (by simp [hb])) ρ' h' with ⟨c, h2, ρ2, e2⟩ | ⟨h2, ρ2, h3, e2⟩
      · refine .inl ⟨c, by simp [h1, h2], ρ2, ?_⟩
        unfold forL
        rcases e with e | e <;> simp only [e, e2]
      · refine .inr ⟨by simp [h1, h2], ρ2, h3, ?_⟩
        unfold forL
        rcases e with e | e <;> simp only [e, e2]
end Py

namespace Py
open PySem PySem.Spec PyProof.Rows L2
/-- o.m() of a frozen object of the class c -/
def fMeth0 (c m : Str) (F : FS) (s : ES) : ES := fun ρ => bnd (s ρ) fun w ρ => match w with
  | .obj c' fs => if c' = c ∧ fs.lookup m = none then runCall F [.obj c' fs] ρ else none
  | _ => none
section
variable {X : Cx} {Wx : WX}
theorem pair_none {G : Hp} {ow : Addr} {m : Str} : ∀ {vfs : List (Str × V)} {fs : List (Str × Option D)}, Paired (FldR X G ow) vfs fs → fs.lookup m = none → vfs.lookup m = none
  | _, _, .nil, _ => rfl
  | (a, v) :: vfs, (b, o) :: fs, .cons r t, h => by
    obtain ⟨e, r⟩ := r
    have e : a = b := e
    subst e
    by_cases z : (m == a) = true
    · simp only [List.lookup, z] at h
      cases h
    · have z : (m == a) = false := by simpa using z
      simp only [List.lookup, z] at h ⊢
      exact pair_none t h
/-- what is asked of a method: its class, its def -/
structure ClsM (X : Cx) (c m : Str) (f : Addr) : Prop where
  cls : ∀ C, X.mg c = some (.ref C) → Cls X.K C
  me : ∀ C, X.mg c = some (.ref C) → Meth X.K C m f
theorem okMethC {c m : Str} {f : Addr} {k : Nat} {fd : FuncData} {ps : List Str} {F : FS} {e : Expr} {s : ES} {pos apos : Pos} {pl : Sem Bool} (hc : ClsM X c m f) (Fm : FnM X.prog X.w X.K X.mg X.base k f fd ps F) (cx : CtxOk X Wx) (hgd : X.A.guards = some []) (hr : Room k X.A)
    (hb : Binds X.K fd ps []) (he : OkE X Wx e s) (hps : ps.length = 1 := by rfl)
    (ht : eval (.Call (.Attribute e m apos) [] [] pos) X.env = (do
      let ov ← eval e X.env
      standAt apos.atName
      let (f, first) ← holding [ov] (getMethod ov m pl)
      callWith pos f first (backTo pos (starEach [] X.env)) (backToKw pos (keywordEach [] X.env))) := by rfl) :
    OkE X Wx (.Call (.Attribute e m apos) [] [] pos) (fMeth0 c m F s) := by
  obtain ⟨t, p, q⟩ := he
  refine ⟨fun σ H Q => t σ H fun x H1 => ∃ a C dx fs, x = .ref a ∧ H1 a = some (.ins C dx fs) ∧ Cls X.K C ∧ Meth X.K C m f ∧ fs.lookup m = none ∧ tM X Wx F σ [.ref a] H1 Q, ⟨fun pins s' σ H Q I h => ?_⟩, fun g σ H ρ Q S h => q g σ H ρ _ S (PostG.at (Ext.refl _ _) h ?_)⟩
  · refine PySem.W.methodCall_KW (pl := pl) (thn (p.run pins s' σ H _ I h) fun u s1 ⟨x, H1, I1, rx, a, C, dx, fs, ex, ea, hcl, hm, l, q⟩ => ?_) ht
    subst ex
    obtain rfl : u = Value.ref a := rx
    refine getmeth_ok I1 ea hcl hm l ?_
    have b := hb s1 [.ref a] I1.kIn (by rw [hps]; rfl)
    exact PySem.W.callWith_K0 (first := [.ref a]) I1.kIn hm.kp (call_of (run_fnM (us := [.ref a]) (vs := [.ref a]) Fm cx hgd hr I1 (.cons rfl .nil) b q))
  · intro w ρ1 g1 H1 x _ e1 S1 r1 h1
    cases w with
    | obj c' fs =>
      dsimp only at h1
      by_cases hh : c' = c ∧ fs.lookup m = none
      · rw [if_pos hh] at h1
        obtain ⟨ec, hl⟩ := hh
        subst ec
        obtain ⟨a, C, dx, vfs, rfl, hm, hg, hf⟩ := r1.1
        exact ⟨a, C, dx, vfs, rfl, S1.sub.1 _ _ hg rfl, hc.cls C hm, hc.me C hm, pair_none hf hl, runCall_tM e1 S1 (.cons r1.1 r1.2 .nil (fun z => by cases z)) h1⟩
      · rw [if_neg hh] at h1
        exact h1.elim
    | _ => exact h1.elim
end
@[simp] theorem fMeth0_at (c m : Str) (F : FS) (s : ES) (ρ : Env') : fMeth0 c m F s ρ = bnd (s ρ) fun w ρ => match w with
  | .obj c' fs => if c' = c ∧ fs.lookup m = none then runCall F [.obj c' fs] ρ else none
  | _ => none := rfl
end Py

namespace Py
open PySem PySem.Spec PyProof.Rows L2
/-- a loop that returns something of a sort, or goes through -/
theorem for_ret {α : Type} {f : TgF} {b : SS} (D' : α → D) (I : Env' → Prop) (N : α → Prop) (P : W → Prop) : ∀ (l : List α), (∀ a ∈ l, ∀ ρ, I ρ → (∃ w ρ', seqS (f (D' a)) b ρ = some (.ret w ρ') ∧ P w) ∨ (N a ∧ ∃ ρ', I ρ' ∧ (seqS (f (D' a)) b ρ = some (.nx ρ') ∨ seqS (f (D' a)) b ρ = some (.ct ρ')))) →
    ∀ ρ, I ρ → (∃ w ρ', forL f b (l.map D') ρ = some (.ret w ρ') ∧ P w) ∨ ((∀ a ∈ l, N a) ∧ ∃ ρ', I ρ' ∧ forL f b (l.map D') ρ = some (.nx ρ'))
  | [], _, ρ, h => .inr ⟨by simp, ρ, h, rfl⟩
  | a :: l, hd, ρ, h => by
    rw [List.map_cons]
    rcases hd a (by simp) ρ h with ⟨w, ρ', e, p⟩ | ⟨n, ρ', h', e⟩
    · refine .inl ⟨w, ρ', ?_, p⟩
      unfold forL
      simp only [e]
    · rcases for_ret D' I N P l (fun b hb => hd b (by simp [hb])) ρ' h' with ⟨w, ρ2, e2, p⟩ | ⟨hn, ρ2, h3, e2⟩
      · refine .inl ⟨w, ρ2, ?_, p⟩
        unfold forL
        rcases e with e | e <;> simp only [e, e2]
      · refine .inr ⟨fun x hx => ?_, ρ2, h3, ?_⟩
        · rcases List.mem_cons.mp hx with rfl | hx
          · exact n
          · exact hn x hx
        · unfold forL
          rcases e with e | e <;> simp only [e, e2]
end Py

namespace Py
open PySem PySem.Spec PyProof.Rows L2
/-! ### a comprehension over an own list that still changes later: the list must stay as it is while it is walked -/
open Classical in
noncomputable def chkG (i : Nat) (s : Slot) (f : TgF) : TgF := fun d ρ => if ρ[i]? = some (some s) then f d ρ else none
open Classical in
noncomputable def lcO1 (i : Nat) (s : Slot) (f : TgF) (t : BS) (e : ES) (vs : List Nat) (ds : List D) (ρ : Env') : Option (R W) :=
  if freeE ρ vs = true then (match lcL (chkG i s f) t e vs 0 ds (wipeE ρ vs) with
    | some (.ok r ρ') => if ρ'[i]? = some (some s) then some (.ok (.fresh (.lst r)) (keepE ρ ρ' vs)) else none
    | _ => none) else none
noncomputable def lcOS (i : Nat) (f : TgF) (t : BS) (e : ES) (vs : List Nat) : ES := fun ρ => match ρ[i]? with
  | some (some (.own (.lst ds))) => lcO1 i (.own (.lst ds)) f t e vs ds ρ
  | some (some (.ref (.lst ds))) => lcO1 i (.ref (.lst ds)) f t e vs ds ρ
  | _ => none
section
variable {X : Cx} {Wx : WX}
open Classical in
noncomputable def lcOK (i : Nat) (s : Slot) (ρ1 : Env') (vs : List Nat) (acc : List D) (o : Option (R (List D))) : Option (R W) := match o with
  | some (.ok r ρ') => if ρ'[i]? = some (some s) then some (.ok (.fresh (.lst (acc ++ r))) (keepE ρ1 ρ' vs)) else none
  | _ => none
theorem chkG_yes {i : Nat} {s : Slot} {f : TgF} {d : D} {ρ : Env'} (h : ρ[i]? = some (some s)) : chkG i s f d ρ = f d ρ := if_pos h
theorem chkG_no {i : Nat} {s : Slot} {f : TgF} {d : D} {ρ : Env'} (h : ¬ ρ[i]? = some (some s)) : chkG i s f d ρ = none := if_neg h
open Classical in
theorem lcOK_cons {i : Nat} {s : Slot} {ρ1 : Env'} {vs : List Nat} {acc : List D} {d : D} {o : Option (R (List D))} : lcOK i s ρ1 vs acc (match o with
    | some (.ok r ρ) => some (.ok (d :: r) ρ)
    | _ => none) = lcOK i s ρ1 vs (acc ++ [d]) o := by
  cases o with
  | none => rfl
  | some r =>
    cases r with
    | ok r ρ =>
      show (if _ then _ else _) = (if _ then _ else _)
      rw [List.append_assoc]; rfl
    | ex c d ρ => rfl
theorem slot_lst {g : Gh} {σ : L2.St} {H : Hp} {ρ : Env'} {i : Nat} {s : Slot} {ds : List D} (S : SR X g σ H ρ) (hs : ρ[i]? = some (some s)) (ho : s.owned = some (.lst ds)) :
    ∃ a xs, σ[i]? = some (some (.ref a)) ∧ H a = some (.lst xs) ∧ RepAll X.K g.G xs ds := by
  obtain ⟨v, h1, h2⟩ := S.slot i s hs
  cases s with
  | val w => cases ho
  | own c =>
    cases ho
    obtain ⟨a, rfl, _, _, ⟨xs, h3, h4⟩, _⟩ := h2
    exact ⟨a, xs, h1, h3, h4⟩
  | ref c =>
    cases ho
    obtain ⟨a, rfl, _, _, ⟨xs, h3, h4⟩, _⟩ := h2
    exact ⟨a, xs, h1, h3, h4⟩
theorem wipe_some {i : Nat} {vs : List Nat} {σ : L2.St} {v : V} (h : (L2.wipe σ vs)[i]? = some (some v)) : σ[i]? = some (some v) := by
  by_cases hi : i ∈ vs
  · rw [wipe_get hi] at h
    cases z : σ[i]? with
    | none => rw [z] at h; cases h
    | some y => rw [z] at h; cases h
  · rw [wipe_at hi] at h; exact h
open Classical in
theorem tr_lcO {i : Nat} {f : TgF} {t : BS} {e : ES} {vs : List Nat} {g : TG} {tt : TT} {te : TE}
    (qg : ∀ gh σ H ρ v d Q, SR X gh σ H ρ → Rep X.K gh.G v d → (∃ ρ', f d ρ = some (.nx ρ') ∧ ∀ g' σ' H', Ext gh H g' H' → SR X g' σ' H' ρ' → L2.wipe σ' vs = L2.wipe σ vs → Q σ' H') → g v σ H Q)
    (qt : TrT X WF tt t) (qe : TrE X WF te e) :
    TrE X Wx (tLc (iSeq X.K (tVar i)) g tt te vs) (lcOS i f t e vs) := by
  intro gS σ HS ρS Q SS h
  have key : ∀ (s : Slot) (ds : List D), ρS[i]? = some (some s) → s.owned = some (.lst ds) → PostE X Wx gS σ HS (lcO1 i s f t e vs ds ρS) Q → tLc (iSeq X.K (tVar i)) g tt te vs σ HS Q := by
    intro s ds hs ho h1
    obtain ⟨a0, xs0, b1, b2, b3⟩ := slot_lst SS hs ho
    refine ⟨.ref a0, b1, a0, rfl, .inl ⟨⟨xs0, .of b2⟩, ?_⟩⟩
    unfold lcO1 at h1
    by_cases hf : freeE ρS vs = true
    · rw [if_pos hf] at h1
      have h1 : PostE X Wx gS σ HS (lcOK i s ρS vs [] (lcL (chkG i s f) t e vs 0 ds (wipeE ρS vs))) Q := h1
      intro Dp hD
      obtain ⟨xl, Sl⟩ := SS.lay (o := .lst []) hD
      have gD0 : gS.G Dp = none := SS.sub.free hD
      have oD0 : ¬ gS.O Dp := fun z => SS.ot Dp z hD
      let P : Nat → Hp → Prop := fun n H => n ≤ ds.length ∧ ∃ (g2 : Gh) (ρ2 : Env') (acc : List D) (xs : List V), Ext gS HS g2 H ∧ SR X g2 (L2.wipe σ vs) H ρ2 ∧ H Dp = some (.lst xs) ∧ RepAll X.K g2.G xs acc ∧ g2.G Dp = none ∧ ¬ g2.O Dp ∧
        PostE X Wx gS σ HS (lcOK i s ρS vs acc (lcL (chkG i s f) t e vs acc.length (ds.drop n) ρ2)) Q
      refine ⟨fun n m H => m = ds.length - n ∧ P n H, ⟨ds.length, by simp, Nat.zero_le _, gS, wipeE ρS vs, [], [], xl, Sl.wipe vs, upd_same, .nil, gD0, oD0, by simpa using h1⟩, ?_⟩
      rintro n m H2 ⟨rfl, hi, g2, ρ2, acc, xs, x2, S2, h2, r2, gD, oD, k2⟩
      have here : ρ2[i]? = some (some s) → ∃ xs, H2 a0 = some (.lst xs) ∧ RepAll X.K g2.G xs ds := fun hz => by
        obtain ⟨a1, ys, c1, c2, c3⟩ := slot_lst S2 hz ho
        have c1 := wipe_some c1
        rw [b1] at c1
        cases c1
        exact ⟨ys, c2, c3⟩
      by_cases hlt : n < ds.length
      · have hdr : ds.drop n = ds[n] :: ds.drop (n + 1) := List.drop_eq_getElem_cons hlt
        rw [hdr] at k2
        unfold lcL at k2
        by_cases hz : ρ2[i]? = some (some s)
        · obtain ⟨ys, c2, c3⟩ := here hz
          have hyl := c3.length
          refine .inr ⟨⟨ys, ys[n]'(by omega), .of c2, by simp [show n < ys.length by omega]⟩, P (n + 1), fun H' z => ⟨ds.length - (n + 1), by omega, rfl, z⟩, fun x H3 y => ?_⟩
          obtain ⟨ey, y⟩ := y
          have hx := y ys (.of c2)
          obtain ⟨d, hd, rd⟩ := c3.get' hx
          subst ey
          have hdd : ds[n] = d := by
            rw [List.getElem?_eq_getElem hlt] at hd
            exact Option.some.inj hd
          rw [hdd] at k2
          rw [chkG_yes hz] at k2
          cases ef : f d ρ2 with
          | none => rw [ef] at k2; exact k2.elim
          | some o =>
            rw [ef] at k2
            cases o with
            | nx ρ3 =>
              dsimp only at k2
              refine qg g2 _ H3 ρ2 x d _ S2 rd ⟨ρ3, ef, fun g4 σ4 H4 e4 S4 hw => ?_⟩
              rw [wipe_idem] at hw
              obtain ⟨h4, gD4, oD4⟩ := e4.fr Dp _ h2 gD oD
              refine ⟨hw, qt g4 σ4 H4 ρ3 _ S4 ?_⟩
              cases et : t ρ3 with
              | none => rw [et] at k2; exact k2.elim
              | some o =>
                rw [et] at k2
                cases o with
                | ex c d ρ => exact k2.elim
                | ok b ρ4 =>
                  intro g5 H5 b' e5 S5 hb
                  cases hb
                  obtain ⟨h5, gD5, oD5⟩ := e5.fr Dp _ h4 gD4 oD4
                  have S5' := S5.wipe vs
                  rw [hw] at S5'
                  have up5 : Same g2.G g5.G := e4.up.trans e5.up
                  cases b with
                  | false =>
                    rw [if_neg Bool.false_ne_true]
                    exact ⟨hlt, g5, wipeE ρ4 vs, acc, xs, (x2.trans e4).trans e5, S5', h5, r2.mono up5, gD5, oD5, k2⟩
                  | true =>
                    rw [if_pos rfl]
                    dsimp only at k2
                    refine qe g5 σ4 H5 ρ4 _ S5 ?_
                    cases ee : e ρ4 with
                    | none => rw [ee] at k2; exact k2.elim
                    | some o =>
                      rw [ee] at k2
                      cases o with
                      | ex c d ρ => exact k2.elim
                      | ok w ρ5 =>
                        cases w with
                        | dat d' =>
                          dsimp only at k2
                          intro g6 H6 v e6 S6 rv
                          obtain ⟨h6, gD6, oD6⟩ := e6.fr Dp _ h5 gD5 oD5
                          by_cases hz : acc.length < lim
                          · rw [if_pos hz] at k2
                            have S6' := S6.wipe vs
                            rw [hw] at S6'
                            have up6 : Same g2.G g6.G := up5.trans e6.up
                            refine ⟨xs, h6, by rw [r2.length, ← lim_eq]; exact hz, hlt, g6, wipeE ρ5 vs, acc ++ [d'], xs ++ [v], (((x2.trans e4).trans e5).trans e6).poke hD, S6'.poke gD6 oD6 (by rw [h6]; exact fun z => by cases z), upd_same,
                              (r2.mono up6).append (.cons rv.1 .nil), gD6, oD6, ?_⟩
                            rw [List.length_append, ← lcOK_cons]
                            exact k2
                          · rw [if_neg hz] at k2
                            exact k2.elim
                        | _ => exact k2.elim
            | _ => exact k2.elim
        · rw [chkG_no hz] at k2
          exact k2.elim
      · have e : n = ds.length := by omega
        subst e
        rw [List.drop_length] at k2
        have k2 : PostE X Wx gS σ HS (if ρ2[i]? = some (some s) then some (.ok (.fresh (.lst (acc ++ []))) (keepE ρS ρ2 vs)) else none) Q := k2
        by_cases hz : ρ2[i]? = some (some s)
        · rw [if_pos hz, List.append_nil] at k2
          obtain ⟨ys, c2, c3⟩ := here hz
          refine .inl ⟨⟨ys, .of c2, by rw [c3.length]; exact Nat.le_refl _⟩, ?_⟩
          exact k2 g2 H2 (.ref Dp) x2 (SS.keep x2.up S2 hf) ⟨⟨Dp, rfl, gD, oD, xs, h2, r2⟩, fun _ a ea => by cases ea; exact hD⟩
        · rw [if_neg hz] at k2
          exact k2.elim
    · rw [if_neg hf] at h1
      exact h1.elim
  unfold lcOS at h
  split at h
  · rename_i ds hs
    exact key _ ds hs rfl h
  · rename_i ds hs
    exact key _ ds hs rfl h
  · exact h.elim
theorem lcO_mk {i : Nat} {x : Str} {elt tg : Expr} {ifs : List Expr} {scope : Scope} {own : List (Str × Nat)} {pos : Pos} {f : TgF} {t : BS} {e : ES} (hN : X.N[i]? = some x) (hv : Vis X.env.scope x) (hd : (x == ("__debug__" : Str)) = false) (hcd : (x == ("__classdict__" : Str)) = false)
    (hg : ∀ (s : Shared) (H : Hp) (C : Addr) (cl : List (Str × Addr)) (fp : List Addr), OkGc (X.blk s H scope (compEnvC scope cl C X.env) fp) (own.map (·.2)) tg f)
    (ht : ∀ (s : Shared) (H : Hp) (C : Addr) (cl : List (Str × Addr)) (fp : List Addr), OkTs (X.blk s H scope (compEnvC scope cl C X.env) fp) ifs t)
    (he : ∀ (s : Shared) (H : Hp) (C : Addr) (cl : List (Str × Addr)) (fp : List Addr), OkE (X.blk s H scope (compEnvC scope cl C X.env) fp) WF elt e) :
    ∃ g tt te, PI X tg (.Name x pos) (iSeq X.K (tVar i)) ∧
      (∀ (s : Shared) (H : Hp) (C : Addr) (cl : List (Str × Addr)) (fp : List Addr), PG (X.blk s H scope (compEnvC scope cl C X.env) fp) tg g) ∧
      (∀ (s : Shared) (H : Hp) (C : Addr) (cl : List (Str × Addr)) (fp : List Addr), PTs (X.blk s H scope (compEnvC scope cl C X.env) fp) ifs tt) ∧
      (∀ (s : Shared) (H : Hp) (C : Addr) (cl : List (Str × Addr)) (fp : List Addr), PE (X.blk s H scope (compEnvC scope cl C X.env) fp) elt te) ∧
      TrE X Wx (tLc (iSeq X.K (tVar i)) g tt te (own.map (·.2))) (lcOS i f t e (own.map (·.2))) := by
  have hi : OkI X Wx tg (.Name x pos) (seqI (vS i)) := okI_seq (okV i hN hv hd hcd)
  obtain ⟨wi, g, tt, te, L⟩ := lcOk_mk hi hg ht he
  exact ⟨g, tt, te, pi_seq (pe_var hN hv hd hcd), L.pg, L.pt, L.pe, tr_lcO L.qg L.qt L.qe⟩
theorem oklcO (i : Nat) {x : Str} {elt tg : Expr} {ifs : List Expr} {scope : Scope} {ipos pos : Pos} {f : TgF} {t : BS} {e : ES} (own : List (Str × Nat)) (hc : X.calm = true) (hN : X.N.Nodup)
    (hg : ∀ (s : Shared) (H : Hp) (C : Addr) (cl : List (Str × Addr)) (fp : List Addr), OkGc (X.blk s H scope (compEnvC scope cl C X.env) fp) (own.map (·.2)) tg f)
    (ht : ∀ (s : Shared) (H : Hp) (C : Addr) (cl : List (Str × Addr)) (fp : List Addr), OkTs (X.blk s H scope (compEnvC scope cl C X.env) fp) ifs t)
    (he : ∀ (s : Shared) (H : Hp) (C : Addr) (cl : List (Str × Addr)) (fp : List Addr), OkE (X.blk s H scope (compEnvC scope cl C X.env) fp) WF elt e) (ok : blkC X.N X.env.scope scope own = true := by kernel_rfl)
    (hx : X.N[i]? = some x := by rfl) (hv : Vis X.env.scope x := by first | exact Or.inl rfl | exact Or.inr (Or.inl rfl) | exact Or.inr (Or.inr rfl)) (hd : (x == ("__debug__" : Str)) = false := by decide)
    (hcd : (x == ("__classdict__" : Str)) = false := by decide) (hs : ∀ y, foldedSetIterable (.Name x ipos) X.env y = pure y := by intro _; rfl) :
    OkE X Wx (.ListComp elt [⟨tg, .Name x ipos, ifs, 0⟩] scope pos) (lcOS i f t e (own.map (·.2))) := by
  obtain ⟨g, tt, te, pi, pg, pt, pe, tr⟩ := lcO_mk (Wx := Wx) hx hv hd hcd hg ht he
  exact ⟨_, pe_lc hc hN pi (blkOk_by ok) pg pt pe hs, tr⟩
theorem oksetLcOT (j : Nat) {y : Str} {py : Pos} (i : Nat) {x : Str} {elt tg : Expr} {ifs : List Expr} {scope : Scope} {ipos pos spos : Pos} {f : TgF} {t : BS} {e : ES} (own : List (Str × Nat)) (hc : X.calm = true) (hN : X.N.Nodup)
    (hg : ∀ (s : Shared) (H : Hp) (C : Addr) (cl : List (Str × Addr)) (fp : List Addr), OkGc (X.blk s H scope (compEnvC scope cl C X.env) fp) (own.map (·.2)) tg f)
    (ht : ∀ (s : Shared) (H : Hp) (C : Addr) (cl : List (Str × Addr)) (fp : List Addr), OkTs (X.blk s H scope (compEnvC scope cl C X.env) fp) ifs t)
    (he : ∀ (s : Shared) (H : Hp) (C : Addr) (cl : List (Str × Addr)) (fp : List Addr), OkE (X.blk s H scope (compEnvC scope cl C X.env) fp) WF elt e) (ok : blkC X.N X.env.scope scope own = true := by kernel_rfl)
    (hy : X.N[j]? = some y := by rfl) (hyl : X.env.scope.names.lookup y = some .local := by rfl)
    (hsw : swapsWith (.ListComp elt [⟨tg, .Name x ipos, ifs, 0⟩] scope pos) (some (.Name y py)) spos.line X.env = pure true := by rfl)
    (hx : X.N[i]? = some x := by rfl) (hv : Vis X.env.scope x := by first | exact Or.inl rfl | exact Or.inr (Or.inl rfl) | exact Or.inr (Or.inr rfl)) (hd : (x == ("__debug__" : Str)) = false := by decide)
    (hcd : (x == ("__classdict__" : Str)) = false := by decide) (hs : ∀ y, foldedSetIterable (.Name x ipos) X.env y = pure y := by intro _; rfl) :
    OkS X Wx (.Assign [.Name y py] (.ListComp elt [⟨tg, .Name x ipos, ifs, 0⟩] scope pos) spos) (asgS true j (lcOS i f t e (own.map (·.2)))) := by
  obtain ⟨g, tt, te, pi, pg, pt, pe, tr⟩ := lcO_mk (Wx := Wx) hx hv hd hcd hg ht he
  exact ⟨_, ps_setLc hc hN hy hyl hsw pi (blkOk_by ok) pg pt pe hs, tr_asg tr⟩
theorem oksetLcOF (j : Nat) {y : Str} {py : Pos} (i : Nat) {x : Str} {elt tg : Expr} {ifs : List Expr} {scope : Scope} {ipos pos spos : Pos} {f : TgF} {t : BS} {e : ES} (own : List (Str × Nat)) (hc : X.calm = true) (hN : X.N.Nodup)
    (hg : ∀ (s : Shared) (H : Hp) (C : Addr) (cl : List (Str × Addr)) (fp : List Addr), OkGc (X.blk s H scope (compEnvC scope cl C X.env) fp) (own.map (·.2)) tg f)
    (ht : ∀ (s : Shared) (H : Hp) (C : Addr) (cl : List (Str × Addr)) (fp : List Addr), OkTs (X.blk s H scope (compEnvC scope cl C X.env) fp) ifs t)
    (he : ∀ (s : Shared) (H : Hp) (C : Addr) (cl : List (Str × Addr)) (fp : List Addr), OkE (X.blk s H scope (compEnvC scope cl C X.env) fp) WF elt e) (ok : blkC X.N X.env.scope scope own = true := by kernel_rfl)
    (hy : X.N[j]? = some y := by rfl) (hyl : X.env.scope.names.lookup y = some .local := by rfl)
    (hsw : swapsWith (.ListComp elt [⟨tg, .Name x ipos, ifs, 0⟩] scope pos) (some (.Name y py)) spos.line X.env = pure true := by rfl)
    (hx : X.N[i]? = some x := by rfl) (hv : Vis X.env.scope x := by first | exact Or.inl rfl | exact Or.inr (Or.inl rfl) | exact Or.inr (Or.inr rfl)) (hd : (x == ("__debug__" : Str)) = false := by decide)
    (hcd : (x == ("__classdict__" : Str)) = false := by decide) (hs : ∀ y, foldedSetIterable (.Name x ipos) X.env y = pure y := by intro _; rfl) :
    OkS X Wx (.Assign [.Name y py] (.ListComp elt [⟨tg, .Name x ipos, ifs, 0⟩] scope pos) spos) (asgS false j (hrd (lcOS i f t e (own.map (·.2))))) := by
  obtain ⟨g, tt, te, pi, pg, pt, pe, tr⟩ := lcO_mk (Wx := Wx) hx hv hd hcd hg ht he
  exact ⟨_, ps_setLc hc hN hy hyl hsw pi (blkOk_by ok) pg pt pe hs, tr_asg (tr_hrd tr)⟩
/-! how it is reckoned: as a comprehension over the data, so long as nothing touches the list -/
theorem lcOS_own {i : Nat} {f : TgF} {t : BS} {e : ES} {vs : List Nat} {ρ : Env'} {ds : List D} (h : ρ[i]? = some (some (.own (.lst ds)))) : lcOS i f t e vs ρ = lcO1 i (.own (.lst ds)) f t e vs ds ρ := by
  unfold lcOS; rw [h]
theorem lcOS_ref {i : Nat} {f : TgF} {t : BS} {e : ES} {vs : List Nat} {ρ : Env'} {ds : List D} (h : ρ[i]? = some (some (.ref (.lst ds)))) : lcOS i f t e vs ρ = lcO1 i (.ref (.lst ds)) f t e vs ds ρ := by
  unfold lcOS; rw [h]
open Classical in
/-- over a list of images, one name, state kept -/
theorem lcO1_n {α : Type} (l : List α) {s : Slot} {t : BS} {e : ES} {i j : Nat} {ρ : Env'} {x : Option Slot} (D' : α → D) (p : α → Bool) (g : α → D) (hs : ρ[i]? = some (some s)) (hij : i ≠ j) (hx : ρ[j]? = some x) (hf : Free x)
    (hd : ∀ a ∈ l, t (ρ.set j (some (.val (.dat (D' a))))) = some (.ok (p a) (ρ.set j (some (.val (.dat (D' a)))))) ∧ (p a = true → e (ρ.set j (some (.val (.dat (D' a))))) = some (.ok (.dat (g a)) (ρ.set j (some (.val (.dat (D' a)))))))) (hz : l.length ≤ lim) :
    lcO1 i s (nmG j) t e [j] (l.map D') ρ = some (.ok (.fresh (.lst ((l.filter p).map g))) ρ) := by
  have hj : j < ρ.length := (List.getElem?_eq_some_iff.mp hx).1
  have fr : freeE ρ [j] = true := by
    simp only [freeE, List.all_cons, List.all_nil, Bool.and_true, List.getD_eq_getElem?_getD, hx, Option.getD_some]
    rcases hf with rfl | ⟨w, rfl⟩ <;> rfl
  have hs' : (ρ.set j none)[i]? = some (some s) := by rw [List.getElem?_set_ne (Ne.symm hij)]; exact hs
  have main : ∀ (l : List α) (n : Nat), n + l.length ≤ lim → (∀ a ∈ l, t (ρ.set j (some (.val (.dat (D' a))))) = some (.ok (p a) (ρ.set j (some (.val (.dat (D' a)))))) ∧ (p a = true → e (ρ.set j (some (.val (.dat (D' a))))) = some (.ok (.dat (g a)) (ρ.set j (some (.val (.dat (D' a)))))))) →
      lcL (chkG i s (nmG j)) t e [j] n (l.map D') (ρ.set j none) = some (.ok ((l.filter p).map g) (ρ.set j none)) := by
    intro l
    induction l with
    | nil => intro n _ _; rfl
    | cons a l ih =>
      intro n hn hd
      obtain ⟨h1, h2⟩ := hd a List.mem_cons_self
      have hn' : n + 1 + l.length ≤ lim := by simpa [Nat.add_assoc, Nat.add_comm 1] using hn
      rw [List.map_cons]
      unfold lcL
      rw [chkG_yes hs', nmG_free (x := none) (D' a) (by simp [hj]) free_none]
      simp only [List.set_set, h1]
      cases hp : p a with
      | false =>
        simp only
        have w : wipeE (ρ.set j (some (.val (.dat (D' a))))) [j] = ρ.set j none := by
          show (ρ.set j _).set j none = _
          rw [List.set_set]
        rw [w, ih n (by omega) fun b hb => hd b (List.mem_cons_of_mem _ hb), List.filter_cons_of_neg (by rw [hp]; exact Bool.false_ne_true)]
      | true =>
        simp only [h2 hp]
        have w : wipeE (ρ.set j (some (.val (.dat (D' a))))) [j] = ρ.set j none := by
          show (ρ.set j _).set j none = _
          rw [List.set_set]
        rw [if_pos (by omega), w, ih (n + 1) hn' fun b hb => hd b (List.mem_cons_of_mem _ hb), List.filter_cons_of_pos hp]
        rfl
  unfold lcO1
  have w0 : wipeE ρ [j] = ρ.set j none := rfl
  rw [if_pos fr, w0, main l 0 (by omega) hd]
  simp only [if_pos hs']
  have k : keepE ρ (ρ.set j none) [j] = ρ := by
    show (ρ.set j none).set j (ρ.getD j none) = ρ
    rw [List.set_set, List.getD_eq_getElem?_getD, hx, Option.getD_some]
    apply List.ext_getElem?
    intro k
    by_cases e : j = k
    · subst e; rw [List.getElem?_set_self hj, hx]
    · rw [List.getElem?_set_ne e]
  rw [k]
end
end Py

namespace Py
open PySem PySem.Spec PyProof.Rows L2
/-! ### a slice of a list with a step -/
def pickI (n : Nat) (lo hi st : Option Int) : List Nat := sliceRange (sliceBounds lo hi st n).1 (sliceBounds lo hi st n).2.1 (sliceBounds lo hi st n).2.2
def pickD {α : Type} (xs : List α) (lo hi st : Option Int) : List α := (pickI xs.length lo hi st).filterMap (xs[·]?)
theorem RepAll.pick {K : PySem.W.Frag} {G : Hp} {vs : List V} {ds : List D} (r : RepAll K G vs ds) (js : List Nat) : RepAll K G (js.filterMap (vs[·]?)) (js.filterMap (ds[·]?)) := by
  induction js with
  | nil => exact .nil
  | cons j js ih =>
    cases e : ds[j]? with
    | none =>
      have e2 : vs[j]? = none := by
        rw [List.getElem?_eq_none_iff] at e ⊢
        rw [r.length]; exact e
      rw [List.filterMap_cons_none e, List.filterMap_cons_none e2]
      exact ih
    | some d =>
      obtain ⟨v, h1, h2⟩ := r.get e
      rw [List.filterMap_cons_some e, List.filterMap_cons_some h1]
      exact .cons h2 ih
theorem Vals.pick {xs : List V} {us : List Value} (h : Vals xs us) (js : List Nat) : Vals (js.filterMap (xs[·]?)) (js.filterMap (us[·]?)) := by
  induction js with
  | nil => exact .nil
  | cons j js ih =>
    cases e : xs[j]? with
    | none =>
      rw [List.filterMap_cons_none e, List.filterMap_cons_none (L2.Vals.none_of h e)]
      exact ih
    | some x =>
      obtain ⟨u, h1, h2⟩ := L2.Vals.get h e
      rw [List.filterMap_cons_some e, List.filterMap_cons_some h1]
      exact .cons h2 ih
section
variable {X : Cx} {Wx : WX}
def tStepL (K : PySem.W.Frag) (te : TE) (tl th ts : TO) : TE := fun σ H Q => te σ H fun x H1 => tl σ H1 fun l H2 => th σ H2 fun u H3 => ts σ H3 fun st H4 =>
  st ≠ some 0 ∧ ∃ a xs, x = .ref a ∧ SqL K H4 a xs ∧ (pickD xs l u st).length ≤ sizeLine ∧ ∀ p, H4 p = none → Q (.ref p) (upd H4 p (.lst (pickD xs l u st)))
theorem pe_stepL {e : Expr} {lo hi st : Option Expr} {te : TE} {tl th ts : TO} {p2 pos : Pos} (he : PE X e te) (hl : PO X lo tl) (hu : PO X hi th) (hst : PO X st ts)
    (hop : ∀ (a sl : Addr), ∃ ops, subscripted (.Slice lo hi st p2) false (.ref a) (.ref sl) = operate ops (getItem (.ref a) (.ref sl))) : PE X (.Subscript e (.Slice lo hi st p2) pos) (tStepL X.K te tl th ts) := by
  refine ⟨fun pins s σ H Q I h => ?_⟩
  refine Subscript_ (thn (he.run pins s σ H _ I h) fun v s1 ⟨x, H1, I1, r1, q1⟩ => ?_)
  refine wpAny_Slice (thn (hl.run pins s1 σ H1 _ I1 q1) fun vl s2 ⟨l, H2, I2, pl, q2⟩ => thn (hu.run pins s2 σ H2 _ I2 q2) fun vu s3 ⟨u, H3, I3, pu, q3⟩ => thn (hst.run pins s3 σ H3 _ I3 q3) fun vs s4 ⟨o, H4, I4, ps, q4⟩ => ?_)
  obtain ⟨h0, a, xs, ex, hx, hlen, q⟩ := q4
  subst ex
  cases r1
  have I5 : Inv X pins σ H4 { s4 with heap := s4.heap.push { cls := .type "slice", data := .fields #[vl, vu, vs] } } := I4.kept (t' := s4.toks) fun b ob q => Heap.get?_push_of_some _ q
  obtain ⟨its, r, ht, hz⟩ := I5.list hx
  have hl2 := r.length
  show wpAny (model X.prog X.w) X.A (subscriptTail e (.Slice lo hi st p2) (.ref a) (.ref s4.heap.objs.size)) (EP X pins σ Q) X.xe { s4 with heap := s4.heap.push { cls := .type "slice", data := .fields #[vl, vu, vs] } }
  obtain ⟨ops, ho⟩ := hop a s4.heap.objs.size
  refine tail_any (ops := ops) ht.isList.typeIs (PySem.slot_list_getitem.lookup) ?_ ho
  refine wpAny_getItem_list_slice ht.isList (Heap.IsSliceOf.new _ vl vu vs) pl pu ps h0 ?_ (by rw [List.size_toArray]; omega)
  have ep : slicePick its.toArray l u o = ((pickI xs.length l u o).filterMap (its[·]?)).toArray := by
    unfold slicePick
    rw [List.size_toArray, ← hl2]
    simp only [List.getElem?_toArray]
    rfl
  rw [ep]
  refine ⟨.ref _, _, I5.laid (t' := s4.toks) (o := .lst (pickD xs l u o)) (fun b ob q => Heap.get?_push_of_some _ q) (Nat.le_refl _) ?_, rfl, q _ (I5.hok.fresh (Nat.le_refl _))⟩
  refine ⟨hlen, _, 0, Vals.pick r _, Heap.get?_push_size _ rfl⟩
def gStep (lo hi st : Option Int) : W → Env' → Option (R W) := fun w ρ => match viewS ρ w with
  | some (.list ds) => if st ≠ some 0 ∧ (pickD ds lo hi st).length ≤ lim then some (.ok (.fresh (.lst (pickD ds lo hi st))) ρ) else none
  | _ => none
def slStepS (sa : ES) (lo hi st : PS') : ES := fun ρ => bnd (sa ρ) fun w ρ => bnd (lo ρ) fun l ρ => bnd (hi ρ) fun h ρ => bnd (st ρ) fun t ρ => gStep l h t w ρ
theorem okSliceStep {a : Expr} {lo hi st : Option Expr} {p2 pos : Pos} {sa : ES} {l h t : PS'} (ha : OkE X Wx a sa) (hl : OkO X Wx lo l) (hh : OkO X Wx hi h) (ht : OkO X Wx st t)
    (hop : ∀ (a sl : Addr), ∃ ops, subscripted (.Slice lo hi st p2) false (.ref a) (.ref sl) = operate ops (getItem (.ref a) (.ref sl)) := by first | exact fun a sl => ⟨[.ref a, .ref sl], rfl⟩ | exact fun a sl => ⟨[.ref sl, .ref a], rfl⟩) : OkE X Wx (.Subscript a (.Slice lo hi st p2) pos) (slStepS sa l h t) := by
  obtain ⟨ta, p, q⟩ := ha
  obtain ⟨tl, pl, ql⟩ := hl
  obtain ⟨th, ph, qh⟩ := hh
  obtain ⟨ts, pst, qs⟩ := ht
  refine ⟨_, pe_stepL p pl ph pst hop, fun g σ H ρ Q S h => q g σ H ρ _ S (PostG.bind later_E h ?_)⟩
  intro w ρ1 g1 H1 x _ e1 S1 r1 h1
  refine ql g1 σ H1 ρ1 _ S1 (PostG.bind later_E h1 ?_)
  intro lo' ρ2 g2 H2 lv _ e2 S2 r2 h2
  cases r2
  refine qh g2 σ H2 ρ2 _ S2 (PostG.bind later_E h2 ?_)
  intro hi' ρ3 g3 H3 hv _ e3 S3 r3 h3
  cases r3
  refine qs g3 σ H3 ρ3 _ S3 (PostG.bind later_E h3 ?_)
  intro st' ρ4 g4 H4 sv _ e4 S4 r4 h4
  cases r4
  have rw' := ((r1.1.ext e2).ext e3).ext e4
  unfold gStep at h4
  split at h4
  · rename_i ds ed
    split at h4
    · rename_i hc
      have key : ∀ {vs : List V}, RepAll X.K g4.G vs ds → RepAll X.K g4.G (pickD vs lo' hi' st') (pickD ds lo' hi' st') := fun {vs} r => by
        unfold pickD
        rw [r.length]
        exact r.pick _
      cases viewS_rep S4 rw' ed with
      | lst hs r => exact ⟨hc.1, _, _, rfl, hs, by rw [(key r).length]; exact hc.2, fun p hp => PostE.newList S4 h4 (key r) hp⟩
    · exact h4.elim
  · exact h4.elim
/-! whole slices with a positive step stay within the list -/
theorem pickD_mem {α : Type} {xs : List α} {lo hi st : Option Int} {x : α} (h : x ∈ pickD xs lo hi st) : x ∈ xs := by
  unfold pickD at h
  obtain ⟨j, _, hj⟩ := List.mem_filterMap.mp h
  exact List.mem_of_getElem? hj
theorem pickD_map {α β : Type} (f : α → β) (xs : List α) (lo hi st : Option Int) : pickD (xs.map f) lo hi st = (pickD xs lo hi st).map f := by
  unfold pickD
  rw [List.length_map, List.map_filterMap]
  congr 1
  funext j
  rw [List.getElem?_map]
theorem pickD_len {α : Type} (xs : List α) (lo : Option Int) (k : Int) (hk : 0 < k) : (pickD xs lo none (some k)).length ≤ xs.length := by
  unfold pickD
  refine Nat.le_trans (List.length_filterMap_le _ _) ?_
  unfold pickI
  refine sliceRange_length_le _ _ _ _ (fun _ => ?_) fun h => ?_
  · unfold sliceBounds
    simp only [Option.getD_some, hk, if_true, gt_iff_lt]
    refine ⟨?_, Int.le_refl _⟩
    cases lo with
    | none => exact Int.le_refl _
    | some i => exact Int.le_max_left _ _
  · exact absurd hk h
end
end Py

namespace Py
open PySem PySem.Spec PyProof.Rows L2
/-! ### range(n) as a value, walked later -/
section
variable {X : Cx} {Wx : WX}
theorem cr_range1 : CallR X (.type "range") (fun vs H Q => ∃ j, vs = [V.int j] ∧ ∀ p, H p = none → Q (.ref p) (upd H p (.rng 0 j))) := by
  intro pins s σ H vs us Q I r h
  obtain ⟨j, rfl, q⟩ := h
  cases r with
  | cons rj rr =>
    cases rr
    obtain ⟨t, rfl⟩ := rj
    refine call_range_1 ⟨.ref s.heap.objs.size, upd H s.heap.objs.size (.rng 0 j), I.laid (t' := s.toks + 1 + 1) (fun b o e => Heap.get?_push_of_some _ e) (Nat.le_refl _) ?_, rfl, q _ (I.hok.fresh (Nat.le_refl _))⟩
    exact ⟨s.toks, t, s.toks + 1, Heap.get?_push_size _ rfl⟩
def rngVF (ws : List W) (ρ : Env') : Option (R W) := match ws with
  | [.dat (.int j)] => some (.ok (.scr (.rg j)) ρ)
  | _ => none
theorem okRangeV {e : Expr} {sa : AS} {p pos : Pos} (hg : Gl X "range") (hm : X.mg "range" = none) (ha : OkA X Wx [e] sa)
    (he : starEach [e] X.env = (false, eval e X.env) :: starEach [] X.env := by rfl) : OkE X Wx (.Call (.Name "range" p) [e] [] pos) (callS rngVF sa) := by
  obtain ⟨t, q, tr⟩ := ha
  refine ⟨_, pe_callTy cr_range1 hg hm boot_range q (he := he), fun g σ H ρ Q S h => tr g σ H ρ _ S (PostG.bind later_E h ?_)⟩
  intro ws ρ1 g1 H1 vs _ e1 S1 r1 h1
  unfold rngVF at h1
  split at h1
  · rename_i j _
    refine ⟨j, r1.int1, fun p hp => ?_⟩
    obtain ⟨x, S2⟩ := S1.freeze (o := .rng 0 j) hp
    exact h1 _ _ (.ref p) x S2 ⟨⟨p, rfl, upd_same⟩, FreshIn.scr⟩
  · exact h1.elim
def iRgv (tl : TE) : TI := fun σ H R => tl σ H fun x H1 => ∃ a j, x = .ref a ∧ H1 a = some (.rng 0 j) ∧ -(2 ^ 62) ≤ j ∧ j < 2 ^ 62 ∧ R (Itr 0 j.toNat) H1
theorem pi_rgv {tg l : Expr} {tl : TE} (hl : PE X l tl) : PI X tg l (iRgv tl) := by
  refine ⟨fun pins s σ H R I h => ?_⟩
  refine thn (hl.run pins s σ H _ I h) fun v s1 hq => ?_
  obtain ⟨x, H1, I1, r1, a, j, e, ha, q1, q2, q⟩ := hq
  subst e
  cases r1
  obtain ⟨t, u, w, hg⟩ := I1.hok a _ ha
  refine wpAny_pyIter_range (a := 0) (b := j) (c := 1) (t := t) (u := u) (v := w) hg (small_one (by omega) (by omega) q1 q2) ?_
  refine ⟨s1.heap.objs.size, [s1.heap.objs.size], _, _, H1, rfl, I1.kept (t' := s1.toks) fun b o e => Heap.get?_push_of_some _ e, turn_range _ 0 j.toNat, ?_, fun b hb => ?_, q⟩
  · have e1 : (0 : Int) + ((0 : Nat) : Int) * 1 = 0 := by simp
    have e2 : ((j.toNat : Nat) : Int) - ((0 : Nat) : Int) = Builtin.Range.rangeSize 0 j 1 := by rw [rangeSize_one]; split <;> omega
    show IsRangeIter _ _ ((0 : Int) + ((0 : Nat) : Int) * 1) (((j.toNat : Nat) : Int) - ((0 : Nat) : Int)) 1
    rw [e1, e2]
    exact Heap.get?_push_size _ rfl
  · have e : b = s1.heap.objs.size := by simpa using hb
    subst e
    exact I1.fpOk (Nat.le_refl _) (I1.hok.fresh (Nat.le_refl _))
def rgI (s : ES) : IS := fun ρ => bnd (s ρ) fun w ρ => match w with
  | .scr (.rg j) => if -big ≤ j ∧ j < big then some (.ok (rngD 0 j.toNat) ρ) else none
  | _ => none
theorem okI_rgv {tg l : Expr} {s : ES} (h : OkE X Wx l s) : OkI X Wx tg l (rgI s) := by
  obtain ⟨t, p, q⟩ := h
  refine ⟨_, pi_rgv p, fun g σ H ρ Q S h => q g σ H ρ _ S (PostG.bind later_I h ?_)⟩
  intro w ρ1 g1 H1 x _ e1 S1 r1 h1
  cases w with
  | scr y =>
    cases y with
    | rg j =>
      obtain ⟨a, ex, ha⟩ := r1.1
      by_cases hb : -big ≤ j ∧ j < big
      · have h1 : PostG X Wx (relI X) g1 σ H1 (if -big ≤ j ∧ j < big then some (.ok (rngD 0 j.toNat) ρ1) else none) _ := h1
        rw [if_pos hb] at h1
        unfold big at hb
        exact ⟨a, j, ex, S1.sub.1 _ _ ha rfl, by omega, by omega, h1 g1 H1 _ (Ext.refl _ _) S1 iter_range⟩
      · have h1 : PostG X Wx (relI X) g1 σ H1 (if -big ≤ j ∧ j < big then some (.ok (rngD 0 j.toNat) ρ1) else none) _ := h1
        rw [if_neg hb] at h1
        exact h1.elim
    | _ => exact h1.elim
  | _ => exact h1.elim
end
theorem rgI_len {s : ES} {ρ ρ' : Env'} {n : Nat} (h : s ρ = some (.ok (.scr (.rg (n : Nat))) ρ')) (hn : n ≤ 1000000) : rgI s ρ = some (.ok ((List.range n).map fun i : Nat => .int (i : Nat)) ρ') := by
  obtain ⟨N, hN⟩ : ∃ N : Int, N = (n : Nat) := ⟨_, rfl⟩
  rw [← hN] at h
  have e3 : N.toNat = n := by omega
  have e4 : -big ≤ N ∧ N < big := by unfold big; omega
  have e5 : rngD 0 N.toNat = (List.range n).map fun i : Nat => PyData.int (i : Nat) := by rw [e3]; simp [rngD]
  unfold rgI
  rw [h]
  show (if -big ≤ N ∧ N < big then _ else _) = _
  rw [if_pos e4, e5]
end Py

namespace Py
open PySem PySem.Spec PyProof.Rows L2
/-! == and != of two frozen objects of one class by its own __eq__ -/
def gEqO (c : Str) (F : FS) (b : Bool → Bool) : W → W → Env' → Option (R W) := fun w z ρ => match w, z with
  | .obj c1 fs, .obj c2 gs => if c1 = c ∧ c2 = c then (match F [.obj c1 fs, .obj c2 gs] with
    | some (.ret (.dat (.bool r)) []) => some (.ok (.dat (.bool (b r))) ρ)
    | _ => none) else none
  | _, _ => none
@[simp] theorem gEqO_at (c : Str) (F : FS) (b : Bool → Bool) (fs gs : List (Str × Option D)) (ρ : Env') : gEqO c F b (.obj c fs) (.obj c gs) ρ = match F [.obj c fs, .obj c gs] with
    | some (.ret (.dat (.bool r)) []) => some (.ok (.dat (.bool (b r))) ρ)
    | _ => none := by simp [gEqO]
/-- what the written part says of such a class -/
structure EqK (K : PySem.W.Frag) (C f : Addr) : Prop where
  fn : PySem.W.isFn K (.ref f) = true
  fi : PySem.W.findIn K (.ref C) "__eq__" = some (some (.ref f))
  ob : ∃ (nm q : Str) (N : Addr) (bs : List Value) (hd : Bool) (sn : List Str) (sub : List Value) (ab : Bool) (col : Option Bool) (dd : Option Addr) (k0 k1 k2 k3 k5 : Option Value) (nw : String),
    K.lookup C = some (excClassObj nm q C N bs [.type "object"] hd sn sub ab col dd k0 k1 k2 k3 k5 nw) ∧ PySem.W.nsOkIn K N = true ∧ PySem.W.nsIn K N "__eq__" = some (some (.ref f)) ∧ PySem.W.nsIn K N "__ne__" = some none
structure ClsE (X : Cx) (c : Str) (f : Addr) : Prop where
  eq : ∀ C, X.mg c = some (.ref C) → EqK X.K C f
theorem nsGot {K : PySem.W.Frag} {h : Heap} {N : Addr} {m : Str → Option Value} {x : Str} {v : Value} (kin : K.In h) (ns : h.Ns N m) (e : PySem.W.nsIn K N x = some (some v)) : m x = some v := by
  obtain ⟨o, es, _, got, dt, _, all⟩ := ns
  unfold PySem.W.nsIn at e
  cases lk : K.lookup N with
  | none => rw [lk] at e; cases e
  | some z =>
    rw [lk] at e
    have same := kin _ _ lk
    rw [got] at same
    cases same
    obtain ⟨c, d, dt', sl⟩ := o
    simp only at dt
    subst dt
    dsimp only at e
    rw [← all]
    unfold nsFind findBy
    split at e
    · rename_i en he
      rw [← Array.find?_toList, he]
      simpa using e
    · split at e <;> exact absurd e (by simp)
section
variable {X : Cx} {Wx : WX} {k : Nat} {f : Addr} {fd : FuncData} {ps : List Str} {F : FS}
/-- a call anywhere below, that ends without an exception -/
theorem run_in {A : Around} {pins : List (Addr × Obj)} {σ : L2.St} {H : Hp} {s : Shared} {Q : VK} {us : List Value} {vs : List V} {g : Gh} {zs : List W} {w : W} {outs : List Cell} (Fm : FnM X.prog X.w X.K X.mg X.base k f fd ps F) (fr : A.frames = X.A.frames) (hg : A.guards = some [])
    (hr : Room k A) (I : Inv X pins σ H s) (rv : Vals vs us) (bd : BindsTo s fd ⟨us, []⟩ (ps.zip us)) (AR : ArgsR X g H vs zs) (hF : F zs = some (.ret w outs)) (post : PostF X g H vs zs (.ret w outs) Q (fun _ _ _ => False)) :
    wpAny (model X.prog X.w) A (call (.ref f) us) (EP X pins σ Q) X.xe s := by
  have e0 := I.env0
  have e1 : Env0 X.prog X.w X.K X.mg X.base A X.stack s H := ⟨fr.trans e0.frames, e0.mod, e0.bs, e0.bsz, e0.funs, e0.frf, e0.hok, e0.bare⟩
  refine wpAny_call (codeAny_mono (Fm.run X rfl rfl A X.stack s H ⟨us, []⟩ us vs zs g _ Q (fun _ _ _ => False) hg hr e1 bd rv AR hF post) fun r s' got => ?_)
  cases r with
  | error e =>
    obtain ⟨_, _, _, _, _, _, _, _, _, _, _, _, no⟩ := got
    exact no.elim
  | ok fl =>
    cases fl with
    | ret u => exact I.after got
    | next => exact got.elim
    | brk => exact got.elim
    | cont => exact got.elim
/-- what is asked of the two -/
def rEqO (X : Cx) (f : Addr) (F : FS) (b : Bool → Bool) : R2 := fun x y H Q => ∃ (a a' C dx dy : Addr) (fs gs : List (Str × V)) (g : Gh) (zs : List W) (w : W) (outs : List Cell), x = .ref a ∧ y = .ref a' ∧ H a = some (.ins C dx fs) ∧ H a' = some (.ins C dy gs) ∧ EqK X.K C f ∧
  ArgsR X g H [.ref a, .ref a'] zs ∧ F zs = some (.ret w outs) ∧ PostF X g H [.ref a, .ref a'] zs (.ret w outs) (fun v H' => ∃ r, v = .bl r ∧ Q (.bl (b r)) H') (fun _ _ _ => False)
theorem sem_eqO {c : Str} {b : Bool → Bool} (hc : ClsE X c f) : Sem2 X Wx (rEqO X f F b) (gEqO c F b) := by
  intro g σ H ρ x y w z Q S rx ry h
  unfold gEqO at h
  split at h
  · rename_i c1 fs c2 gs
    split at h
    · rename_i hcc
      obtain ⟨e1, e2⟩ := hcc
      subst e1 e2
      split at h
      · rename_i r hF
        obtain ⟨a, C, dx, vfs, rfl, hm, hga, pa⟩ := id rx
        obtain ⟨a', C', dy, wfs, rfl, hm', hgb, pb⟩ := id ry
        rw [hm] at hm'
        cases hm'
        have RW : RepWs X g σ H H [.ref a, .ref a'] [.obj _ fs, .obj _ gs] := .cons rx FreshIn.obj (.cons ry FreshIn.obj .nil fun z => by cases z) fun z => by cases z
        obtain ⟨AR, back⟩ := call_back (zs := [.obj _ fs, .obj _ gs]) (Ext.refl g H) S RW (by exact List.nodup_nil) rfl
        refine ⟨a, a', C, dx, dy, vfs, wfs, _, _, _, _, rfl, rfl, S.sub.1 _ _ hga rfl, S.sub.1 _ _ hgb rfl, hc.eq C hm, AR, hF, ?_⟩
        intro g' H' v xt sub rr ho
        obtain ⟨x3, S3⟩ := back g' H' [] ρ xt sub ho rfl
        cases (show Rep X.K g'.G v (.bool r) from rr)
        exact ⟨r, rfl, h _ H' (.bl (b r)) x3 S3 ⟨.bl _, FreshIn.dat⟩⟩
      · exact h.elim
    · exact h.elim
  · exact h.elim
theorem op_eqO {b : Bool → Bool} (hb : b = id) (Fm : FnM X.prog X.w X.K X.mg X.base k f fd ps F) (hg : X.A.guards = some []) (hr : Room k X.A) (bd : Binds X.K fd ps []) : OpR X (compareOp .Eq) (rEqO X f F b) := by
  subst hb
  intro pins s σ H x y v u Q I rx ry h
  obtain ⟨a, a', C, dx, dy, fs, gs, g, zs, w, outs, rfl, rfl, ha, hb', T, AR, hF, post⟩ := h
  cases rx
  cases ry
  obtain ⟨mA, J, _⟩ := ins_get I.hok ha
  obtain ⟨mB, J', _⟩ := ins_get I.hok hb'
  obtain ⟨od, J, _⟩ := J.look
  obtain ⟨od', J', _⟩ := J'.look
  obtain ⟨m, fr⟩ := I.fr
  show wpAny (model X.prog X.w) X.A (richCompare .Eq (.ref a) (.ref a')) (EP X pins σ Q) X.xe s
  refine PySem.W.cmp_K (op := .Eq) (tb := .ref C) hr.units0 fr I.ok.mod.kin J J'.type (by simp [PySem.W.notFirst]) T.fi T.fn ?_
  have hl : ([.ref a, .ref a'] : List Value).length = ps.length := AR.len.trans (Fm.len _ _ hF)
  refine wpAny_mono (run_in (vs := [.ref a, .ref a']) (us := [.ref a, .ref a']) Fm rfl hg hr I (.cons rfl (.cons rfl .nil)) (by simpa using bd s [.ref a, .ref a'] I.kIn (by simpa using hl)) AR hF post) (fun q s' got => ?_) fun _ _ z => z
  obtain ⟨y, H', I', ry, r, ey, hq⟩ := got
  subst ey
  cases ry
  exact ⟨.bl r, H', I', rfl, hq⟩
theorem op_neO (Fm : FnM X.prog X.w X.K X.mg X.base k f fd ps F) (hg : X.A.guards = some []) (hr : Room (k + 1) X.A) (bd : Binds X.K fd ps []) : OpR X (compareOp .NotEq) (rEqO X f F not) := by
  intro pins s σ H x y v u Q I rx ry h
  obtain ⟨a, a', C, dx, dy, fs, gs, g, zs, w, outs, rfl, rfl, ha, hb', T, AR, hF, post⟩ := h
  cases rx
  cases ry
  obtain ⟨mA, J, _⟩ := ins_get I.hok ha
  obtain ⟨mB, J', _⟩ := ins_get I.hok hb'
  obtain ⟨od, J, _⟩ := J.look
  obtain ⟨od', J', _⟩ := J'.look
  obtain ⟨nm, q, N, bs, hd, sn, sub, ab, col, dd, k0, k1, k2, k3, k5, nw, lk, nk, n1, n2⟩ := T.ob
  have kin := I.kIn
  have ns : s.heap.Ns N (s.heap.nsMap N) := .of_isNs (PySem.W.isNs_of_in kin nk)
  have fo : ∃ o, s.heap.get? f = some o ∧ o.cls = .type "function" := by
    have t := T.fn
    unfold PySem.W.isFn at t
    have t := eq_of_beq t
    unfold PySem.W.typeIn at t
    dsimp only at t
    cases lf : X.K.lookup f with
    | none => rw [lf] at t; cases t
    | some o => rw [lf] at t; exact ⟨o, kin _ _ lf, Option.some.inj t⟩
  obtain ⟨of, hof, hcf⟩ := fo
  have own : s.heap.OwnEqNoNe a C f "object" [.type "object"] := ⟨_, of, nm, q, N, bs, hd, sn, sub, ab, col, dd, k0, k1, k2, k3, k5, nw, s.heap.nsMap N, _, J.1, J.2, kin _ _ lk, ns, nsGot kin ns n1, hof, hcf, PySem.F.mro_object, PySem.F.cmp_object.eq.lookup, PySem.W.ns_none_of kin ns n2⟩
  have hl : ([.ref a, .ref a'] : List Value).length = ps.length := AR.len.trans (Fm.len _ _ hF)
  obtain ⟨hp, gg, d, t, os⟩ := s
  refine compareOp_ne_ownEq PySem.F.cmp_object own J'.1 J'.2 hr.in1.units0 ?_
  refine wpAny_mono (run_in (A := X.A.in1) (vs := [.ref a, .ref a']) (us := [.ref a, .ref a']) Fm rfl hg hr.in1 I (.cons rfl (.cons rfl .nil)) (by simpa using bd _ [.ref a, .ref a'] I.kIn (by simpa using hl)) AR hF post) (fun q s' got => ?_) fun _ _ z => z
  obtain ⟨y, H', I', ry, r, ey, hq⟩ := got
  subst ey
  cases ry
  exact ⟨r, rfl, .bl (!r), H', I', rfl, hq⟩
theorem so_eqO {c : Str} (hc : ClsE X c f) (Fm : FnM X.prog X.w X.K X.mg X.base k f fd ps F) (hg : X.A.guards = some []) (hr : Room k X.A) (bd : Binds X.K fd ps []) : SemOp X Wx (compareOp .Eq) (gEqO c F id) := ⟨_, op_eqO rfl Fm hg hr bd, sem_eqO hc⟩
theorem so_neO {c : Str} (hc : ClsE X c f) (Fm : FnM X.prog X.w X.K X.mg X.base k f fd ps F) (hg : X.A.guards = some []) (hr : Room (k + 1) X.A) (bd : Binds X.K fd ps []) : SemOp X Wx (compareOp .NotEq) (gEqO c F not) := ⟨_, op_neO Fm hg hr bd, sem_eqO hc⟩
end
end Py

namespace Py
open PySem PySem.Spec PyProof.Rows L2
/-! ### exceptions of own classes, over any built-in base, that keep what they are given -/
structure ExK (K : PySem.W.Frag) (C : Addr) : Prop where
  cls : ∃ (B nw ini : String) (bmB : List Value) (nm q : Str) (N : Addr) (bs bm : List Value) (sn : List Str) (sub : List Value) (ab : Bool) (col : Option Bool) (dd : Option Addr) (k0 k1 k2 k3 k5 : Option Value),
    ExcBaseFacts B nw ini bmB ∧ StoreFacts B bmB "object.__setattr__" "object" ∧ PySem.W.excTail bmB bm = true ∧ K.lookup C = some (excClassObj nm q C N bs bm true sn sub ab col dd k0 k1 k2 k3 k5 nw)
  sa : PySem.W.findIn K (.ref C) "__setattr__" = some (some (.builtin "object.__setattr__"))
  exC : PySem.W.subIn K (.ref C) (.type "BaseException") = some true
  tyC : PySem.W.typeIn K (.ref C) = some (.type "type")
  kC : PySem.W.keepIn K (.ref C) = true
theorem taker_none {K : PySem.W.Frag} {C : Addr} {f : Str} (h : PySem.W.findIn K (.ref C) f = some none) : PySem.W.takerIn K C f = some none := by
  unfold PySem.W.takerIn
  rw [h]
  rfl
section
variable {X : Cx} {pins : List (Addr × Obj)} {σ : L2.St} {H : Hp} {s : Shared} {a C dx : Addr} {f : Str} {y : V} {u : Value} {fs : List (Str × V)} {Q : Unit → Shared → Prop} {E : Value → Shared → Prop} {A : Around}
/-- the first field -/
theorem exk_first (T : ExK X.K C) (I : Inv X pins σ H s) (e : H a = some (exo a C none)) (hno : PySem.W.findIn X.K (.ref C) f = some none) (ry : RelV y u)
    (go : ∀ dx s', H dx = none → dx ≠ a → Inv X pins σ (upd (upd H dx (exd dx [(f, y)])) a (exo a C (some dx))) s' → Q () s') : wpAny (model X.prog X.w) A (setAttr (.ref a) f u) Q E s := by
  obtain ⟨B, nw, ini, bmB, nm, q, N, bs, bm, sn, sub, ab, col, dd, k0, k1, k2, k3, k5, FB, SF, tl, lk⟩ := T.cls
  obtain ⟨t1, ho⟩ := exo_at I.hok e
  have kin := I.kIn
  have hcl : PySem.W.clsIn X.K C = some { name := nm, bases := bs, mro := .ref C :: bm, ns := N, qualname := q, hasDict := true, slotNames := sn, subclasses := sub, abstract := ab, collection := col, hasDel := false } := by unfold PySem.W.clsIn; rw [lk] <;> rfl
  have ov : PySem.W.excOver X.K C bmB = true := by
    unfold PySem.W.excOver
    rw [hcl]
    simp [tl]
  obtain ⟨hp, g, d, t, os⟩ := s
  have xs : a ≠ hp.objs.size := Nat.ne_of_lt (Heap.lt_size ho)
  refine PySem.W.set_plain kin (ox := { cls := .ref C, dict := none, data := .fields #[.ref t1, .none, .none, .none, .bool false, .none] }) (od := none) ⟨ho, rfl, rfl, trivial⟩ T.sa ?_
  refine PySem.W.osa_openX (od := none) (r := none) SF kin ⟨ho, rfl, rfl, trivial⟩ ov (taker_none hno) fun b => ?_
  show wpAny _ _ (Builtin.ObjectAttr.storeInOwnDict (.ref a) (.ref C) _ f u b) _ _ _
  have hcls : PySem.W.Looks (model X.prog X.w) hp (classData C) _ := PySem.W.looks_clsIn kin hcl
  unfold Builtin.ObjectAttr.storeInOwnDict Builtin.ObjectAttr.ownDictForStores
  repeat (first | with_reducible refine HandSPX.store_in_new ?_ ?_ | with_reducible refine wpAny_loadPart_at ho ?_ | with_reducible refine hcls.at ?_ | wp_step)
  · exact ⟨_, #[], _, (Heap.get?_update_ne _ _ _ _ xs.symm).trans (Heap.get?_push_at rfl rfl), rfl, fun e he => absurd he (by simp), fun _ => rfl⟩
  · intro h' tk' hn same
    have hx1 : (hp.push { cls := .type "dict", data := .dict #[] }).get? a = some { cls := .ref C, dict := none, data := .fields #[.ref t1, .none, .none, .none, .bool false, .none] } := Heap.get?_push_of_some _ ho
    have at1 : ∀ b o, b ≠ a → hp.get? b = some o → h'.get? b = some o := fun b o hb q => (same.2 b (Nat.ne_of_lt (Heap.lt_size q))).trans ((Heap.get?_update_ne _ _ _ _ hb).trans (Heap.get?_push_of_some _ q))
    have me : h'.get? a = some { cls := .ref C, dict := some hp.objs.size, data := .fields #[.ref t1, .none, .none, .none, .bool false, .none] } := (same.2 a xs).trans (Heap.get?_update_self _ hx1 rfl)
    have nd : H hp.objs.size = none := I.hok.fresh (Nat.le_refl _)
    have off : ∀ {b : Addr} {o : Obj}, hp.get? b = some o → b ≠ hp.objs.size := fun {b o} q => Nat.ne_of_lt (Heap.lt_size q)
    have un : Un X.fs [] H (upd (upd H hp.objs.size (exd hp.objs.size [(f, y)])) a (exo a C (some hp.objs.size))) hp h' := by
      refine ⟨fun b o q n _ _ => at1 b o (fun z => by rw [z, e] at n; cases n) q, fun b o q n _ _ => ⟨o.slots, at1 b o (fun z => by rw [z, e] at n; cases n) q⟩, fun b o q n _ => ?_, fun b o q _ => ?_, fun b xs q => ?_, fun b o v q => ?_, fun b ps q => ⟨#[], ?_⟩⟩
      · rw [upd_ne (fun z => by rw [z, e] at n; cases n), upd_ne (off q)]; exact n
      · rcases Classical.em (b = a) with hb | hb
        · exact ⟨_, hb ▸ me⟩
        · exact ⟨o, at1 b o hb q⟩
      · rw [upd_ne (at_ne e q exo_tup), upd_ne (ne_of_none q nd)]; exact q
      · rw [upd_ne (at_ne e q exo_frz), upd_ne (ne_of_none q nd)]; exact q
      · rw [upd_ne (at_ne e q exo_tbl), upd_ne (ne_of_none q nd), q]; simp
    refine go hp.objs.size _ nd xs.symm (I.un (t' := tk') un fun b o q => ?_)
    rcases Classical.em (b = a) with hb | hb
    · subst hb
      rw [upd_same] at q
      cases q
      exact exo_ok me
    · rw [upd_ne hb] at q
      rcases Classical.em (b = hp.objs.size) with hd | hd
      · subst hd
        rw [upd_same] at q
        cases q
        exact exd_ok hn (relO_put (fs := []) ry fun _ => True.intro)
      · rw [upd_ne hd] at q
        refine (I.hok b o q).stay (fun c v hc z => at1 c v ?_ z) (fun c hc => ?_) fun c xs hc => ?_
        · rcases hc with hc | hc
          · rw [hc]; exact hb
          · exact at_ne e hc exo_own
        · rw [upd_ne (at_ne e hc exo_own), upd_ne (ne_of_none hc nd)]; exact hc
        · rw [upd_ne (at_ne e hc exo_tup), upd_ne (ne_of_none hc nd)]; exact hc
/-- a further field -/
theorem exk_more (T : ExK X.K C) (I : Inv X pins σ H s) (e : H a = some (exo a C (some dx))) (ed : H dx = some (exd dx fs)) (hl : fs.length ≤ 900) (hno : PySem.W.findIn X.K (.ref C) f = some none) (ry : RelV y u)
    (go : ∀ s', Inv X pins σ (upd H dx (exd dx ((f, y) :: fs))) s' → Q () s') : wpAny (model X.prog X.w) A (setAttr (.ref a) f u) Q E s := by
  obtain ⟨B, nw, ini, bmB, nm, q, N, bs, bm, sn, sub, ab, col, dd, k0, k1, k2, k3, k5, FB, SF, tl, lk⟩ := T.cls
  obtain ⟨t1, ho⟩ := exo_at I.hok e
  obtain ⟨mA, ns, rel⟩ := exd_at I.hok ed
  have kin := I.kIn
  have hcl : PySem.W.clsIn X.K C = some { name := nm, bases := bs, mro := .ref C :: bm, ns := N, qualname := q, hasDict := true, slotNames := sn, subclasses := sub, abstract := ab, collection := col, hasDel := false } := by unfold PySem.W.clsIn; rw [lk] <;> rfl
  have ov : PySem.W.excOver X.K C bmB = true := by
    unfold PySem.W.excOver
    rw [hcl]
    simp [tl]
  have wi := within_of rel
  obtain ⟨hp, g, d, t, os⟩ := s
  obtain ⟨oD, _, _, hoD, _, _⟩ := ns.count wi
  refine PySem.W.set_plain kin (ox := { cls := .ref C, dict := some dx, data := .fields #[.ref t1, .none, .none, .none, .bool false, .none] }) (od := some oD) ⟨ho, rfl, rfl, hoD⟩ T.sa ?_
  refine PySem.W.osa_openX (od := some oD) (r := none) SF kin ⟨ho, rfl, rfl, hoD⟩ ov (taker_none hno) fun b => ?_
  show wpAny _ _ (Builtin.ObjectAttr.storeInOwnDict (.ref a) (.ref C) _ f u b) _ _ _
  have hcls : PySem.W.Looks (model X.prog X.w) hp (classData C) _ := PySem.W.looks_clsIn kin hcl
  have few : (fs.map (·.1)).length ≤ 1000 := by rw [List.length_map]; omega
  unfold Builtin.ObjectAttr.storeInOwnDict Builtin.ObjectAttr.ownDictForStores
  repeat (first | with_reducible refine OEX.store_in_old ns wi few ?_ | with_reducible refine wpAny_loadPart_at ho ?_ | with_reducible refine hcls.at ?_ | wp_step)
  intro h' tk' hn same
  have there : ∃ o, h'.get? dx = some o := by
    obtain ⟨o, _, _, q, _⟩ := hn
    exact ⟨o, q⟩
  exact go _ (I.write (t' := tk') (x := dx) (e := dx) (o := exd dx ((f, y) :: fs)) (by rw [ed]; exact True.intro) (.inl rfl) (fun b o hb q => (same.2 b hb).trans q) there (exd_ok hn (relO_put ry rel)))
end
/-! ### its __init__, that keeps its arguments -/
def initSp (K : PySem.W.Frag) (names : List Str) : Sp := fun vs H Q _ => ∃ (a C : Addr) (ys : List V), vs = .ref a :: ys ∧ ys.length = names.length ∧ ExK K C ∧ (∀ f ∈ names, PySem.W.findIn K (.ref C) f = some none) ∧ H a = some (exo a C none) ∧
  ∀ (dx : Addr) (H2 : Hp), H dx = none → dx ≠ a → H2 a = some (exo a C (some dx)) → H2 dx = some (exd dx (names.zip ys).reverse) → (∀ b, b ≠ a → b ≠ dx → H2 b = H b) → Q .non H2
def tPutX (K : PySem.W.Frag) (f : Str) (i j : Nat) : TS := fun D σ H => ∃ (a C : Addr) (y : V), σ[i]? = some (some (.ref a)) ∧ σ[j]? = some (some y) ∧ ExK K C ∧ PySem.W.findIn K (.ref C) f = some none ∧
  ((H a = some (exo a C none) ∧ ∀ dx, H dx = none → dx ≠ a → D.nx σ (upd (upd H dx (exd dx [(f, y)])) a (exo a C (some dx)))) ∨
    ∃ (dx : Addr) (fs : List (Str × V)), H a = some (exo a C (some dx)) ∧ H dx = some (exd dx fs) ∧ fs.length ≤ 900 ∧ D.nx σ (upd H dx (exd dx ((f, y) :: fs))))
section
variable {X : Cx}
theorem ps_putx {i j : Nat} {o x f : Str} {p1 p2 p' pos : Pos} (ho : PE X (.Name o p1) (tVar i)) (hx : PE X (.Name x p2) (tVar j)) (hs : swapsWith (.Name x p2) (some (.Attribute (.Name o p1) f p')) pos.line X.env = pure false) :
    PS X (.Assign [.Attribute (.Name o p1) f p'] (.Name x p2) pos) (tPutX X.K f i j) := by
  refine ⟨fun pins s σ H D I h => ?_⟩
  obtain ⟨a, C, y, h1, h2, T, no, h⟩ := h
  refine plainObj_wpAny_Assign_Attribute (thn (hx.run pins s σ H (fun v H' => v = y ∧ H' = H) I ⟨y, h2, rfl, rfl⟩) fun v s1 ⟨y', H1, I1, r1, e1, e2⟩ => thn (ho.run pins s1 σ H1 (fun v H' => v = .ref a ∧ H' = H) I1 ⟨.ref a, h1, rfl, e2⟩) fun u s2 ⟨z, H2, I2, r2, e3, e4⟩ => ?_) hs
  subst e1 e3 e4
  obtain rfl : u = Value.ref a := r2
  rcases h with ⟨ea, go⟩ | ⟨dx, fs, ea, ed, hl, go⟩
  · exact exk_first T I2 ea no r1 fun dx s' n ne J => ⟨σ, _, J, go dx n ne⟩
  · exact exk_more T I2 ea ed hl no r1 fun s' J => ⟨σ, _, J, go⟩
end
section
variable {P : Program} {w : World} {K : PySem.W.Frag} {mg : Str → Option Value} {base : Heap} {CX : CXT} {qual : Str} {st : Stmt} {fI : Addr} {fd : FuncData} {p1 p2 p3 pos q1 q2 q3 qos : Pos} {o x y f g : Str}
theorem init_one (F : Fun K "__init__" qual st fI fd) (S : FnScope [o, x] [o, x] (defScope st)) (hb : defBody st = [.Assign [.Attribute (.Name o p1) f p2] (.Name x p3) pos]) (lo : (defScope st).names.lookup o = some .local) (lx : (defScope st).names.lookup x = some .local)
    (d1 : (o == ("__debug__" : Str)) = false) (d2 : (x == ("__debug__" : Str)) = false) (c1 : (o == ("__classdict__" : Str)) = false) (c2 : (x == ("__classdict__" : Str)) = false) (sw : ∀ env, swapsWith (.Name x p3) (some (.Attribute (.Name o p1) f p2)) pos.line env = pure false) :
    FnOk P w K mg base CX 2 fI fd [o, x] (initSp K [f]) := by
  obtain ⟨oc, od, kV, doc, pm, an, cdv, ct, osl, rfl, lk, hcd⟩ := F.ex
  refine fn_of lk hcd S (fun vs H Q E ⟨a, C, ys, e, l, _⟩ => by rw [e]; simp at l ⊢; exact l) fun A outer s H vs Q E hr ⟨a, C, ys, ev, hl, T, no, ea, go⟩ => ?_
  obtain ⟨v, rfl⟩ : ∃ v, ys = [v] := by
    match ys, hl with
    | [v], _ => exact ⟨v, rfl⟩
  subst ev
  rw [hb]
  refine ⟨_, pss_cons (ps_putx (i := 0) (j := 1) (pe_var rfl (.inl lo) d1 c1) (pe_var rfl (.inl lx) d2 c2) (sw _)) pss_nil, ?_⟩
  refine ⟨a, C, v, rfl, rfl, T, no f (by simp), .inl ⟨ea, fun dx n ne => ?_⟩⟩
  exact go dx _ n ne upd_same (by rw [upd_ne ne, upd_same]; rfl) fun b h1 h2 => by rw [upd_ne h1, upd_ne h2]
theorem init_two (F : Fun K "__init__" qual st fI fd) (S : FnScope [o, x, y] [o, x, y] (defScope st)) (hb : defBody st = [.Assign [.Attribute (.Name o p1) f p2] (.Name x p3) pos, .Assign [.Attribute (.Name o q1) g q2] (.Name y q3) qos])
    (lo : (defScope st).names.lookup o = some .local) (lx : (defScope st).names.lookup x = some .local) (ly : (defScope st).names.lookup y = some .local)
    (d1 : (o == ("__debug__" : Str)) = false) (d2 : (x == ("__debug__" : Str)) = false) (d3 : (y == ("__debug__" : Str)) = false) (c1 : (o == ("__classdict__" : Str)) = false) (c2 : (x == ("__classdict__" : Str)) = false) (c3 : (y == ("__classdict__" : Str)) = false)
    (sw : ∀ env, swapsWith (.Name x p3) (some (.Attribute (.Name o p1) f p2)) pos.line env = pure false) (sw2 : ∀ env, swapsWith (.Name y q3) (some (.Attribute (.Name o q1) g q2)) qos.line env = pure false) :
    FnOk P w K mg base CX 2 fI fd [o, x, y] (initSp K [f, g]) := by
  obtain ⟨oc, od, kV, doc, pm, an, cdv, ct, osl, rfl, lk, hcd⟩ := F.ex
  refine fn_of lk hcd S (fun vs H Q E ⟨a, C, ys, e, l, _⟩ => by rw [e]; simp at l ⊢; exact l) fun A outer s H vs Q E hr ⟨a, C, ys, ev, hl, T, no, ea, go⟩ => ?_
  obtain ⟨v, u, rfl⟩ : ∃ v u, ys = [v, u] := by
    match ys, hl with
    | [v, u], _ => exact ⟨v, u, rfl⟩
  subst ev
  rw [hb]
  refine ⟨_, pss_cons (ps_putx (i := 0) (j := 1) (pe_var rfl (.inl lo) d1 c1) (pe_var rfl (.inl lx) d2 c2) (sw _)) (pss_cons (ps_putx (i := 0) (j := 2) (pe_var rfl (.inl lo) d1 c1) (pe_var rfl (.inl ly) d3 c3) (sw2 _)) pss_nil), ?_⟩
  refine ⟨a, C, v, rfl, rfl, T, no f (by simp), .inl ⟨ea, fun dx n ne => ?_⟩⟩
  refine ⟨a, C, u, rfl, rfl, T, no g (by simp), .inr ⟨dx, [(f, v)], upd_same, by rw [upd_ne ne, upd_same], by simp, ?_⟩⟩
  exact go dx _ n ne (by rw [upd_ne (Ne.symm ne), upd_same]) upd_same fun b h1 h2 => by rw [upd_ne h2, upd_ne h1, upd_ne h2]
end
end Py

namespace Py
open PySem PySem.Spec PyProof.Rows L2
/-! ### raise C(..) -/
/-- what the written part says of the class and its __init__ -/
structure ExI (K : PySem.W.Frag) (C fI : Addr) (names : List Str) : Prop where
  k : ExK K C
  no : ∀ f ∈ names, PySem.W.findIn K (.ref C) f = some none
  iC : PySem.W.findIn K (.ref C) "__init__" = some (some (.ref fI))
  iT : PySem.W.typeIn K (.ref fI) = some (.type "function")
def tMkX (C : Addr) (names : List Str) (ta : TA) : L2.St → Hp → XK → Prop := fun σ H Q => ta σ H fun vs H1 => vs.length = names.length ∧ vs.length ≤ 1000 ∧ ∀ d, H1 d = none → Q (.ref C) (some d) (upd H1 d (.xd (names.zip vs).reverse))
section
variable {X : Cx} {Wx : WX} {e : Expr} {es : List Expr} {ta : TA} {p pos : Pos}
theorem pmk_x {x : Str} {C fI : Addr} {names : List Str} {k : Nat} {fd : FuncData} {ps : List Str} (T : ExI X.K C fI names) (F1 : FnOk X.prog X.w X.K X.mg X.base (L2.CX X.prog X.w) k fI fd ps (initSp X.K names)) (hr : Room (k + 1) X.A) (hb : Binds X.K fd ps []) (hg : Gl X x) (hm : X.mg x = some (.ref C)) (ha : PA X (e :: es) ta)
    (hdb : (x == ("__debug__" : Str)) = false := by decide) (he : starEach (e :: es) X.env = (false, eval e X.env) :: starEach es X.env := by rfl) (hpl : (backTo pos (starEach es X.env)).any (·.1) = false := by rfl) :
    PMk X (.Call (.Name x p) (e :: es) [] pos) (tMkX C names ta) := by
  intro pins s σ H Q I h
  obtain ⟨B, nw, ini, bmB, nm, q, N, bs, bm, sn, sub, ab, col, dd, k0, k1, k2, k3, k5, FB, SF, tl, lk⟩ := T.k.cls
  refine wpAny_Call_Name_kw (ld_glob I hg hm ?_ hdb)
  refine PySem.W.callWith_K (h₀ := X.base) I.ok.mod.kin T.k.kC (thn (ha.run pos pins s σ H _ I h) fun us s1 ⟨vs, H1, I1, r1, hn, hz, go⟩ => ⟨I1.kIn, ?_⟩) he hpl
  show wpAny _ _ (call (.ref C) us) _ _ _
  obtain ⟨hp, g, dr, tk, os⟩ := s1
  have up1 : hp.objs.size ≤ hp.objs.size + 1 := Nat.le_succ _
  have hne : H1 (hp.objs.size + 1) = none := I1.hok.fresh up1
  have stay : ∀ b o, hp.get? b = some o → ((hp.push (PySem.W.kdv_tup us)).push (PySem.HandSPX.excO C hp.objs.size)).get? b = some o := fun b o z => Heap.get?_push_of_some _ (Heap.get?_push_of_some _ z)
  have me : ((hp.push (PySem.W.kdv_tup us)).push (PySem.HandSPX.excO C hp.objs.size)).get? (hp.objs.size + 1) = some (PySem.HandSPX.excO C hp.objs.size) := by heap_get
  have I2 := I1.laid (t' := tk) (a := hp.objs.size + 1) (o := exo (hp.objs.size + 1) C none) stay up1 (exo_ok me)
  have rv : Vals (V.ref (hp.objs.size + 1) :: vs) (Value.ref (hp.objs.size + 1) :: us) := .cons rfl r1
  -- what its __init__ is asked for
  have ask : initSp X.K names (.ref (hp.objs.size + 1) :: vs) (upd H1 (hp.objs.size + 1) (exo (hp.objs.size + 1) C none)) (fun v H2 => v = .non ∧ ∃ (d : Addr) (fs : List (Str × V)), H2 (hp.objs.size + 1) = some (exo (hp.objs.size + 1) C (some d)) ∧ H2 d = some (exd d fs) ∧ H1 d = none ∧ Q (.ref C) (some d) (upd (del H2 (hp.objs.size + 1)) d (.xd fs))) (fun _ _ _ => False) := by
    refine ⟨_, C, vs, rfl, hn, T.k, T.no, upd_same, fun dx H2 n ne ea ed rest => ⟨rfl, dx, _, ea, ed, by rwa [upd_ne ne] at n, ?_⟩⟩
    have n1 : H1 dx = none := by rwa [upd_ne ne] at n
    have same : upd (del H2 (hp.objs.size + 1)) dx (.xd (names.zip vs).reverse) = upd H1 dx (.xd (names.zip vs).reverse) := by
      funext b
      by_cases hb : b = dx
      · rw [hb, upd_same, upd_same]
      · rw [upd_ne hb, upd_ne hb]
        by_cases ha : b = hp.objs.size + 1
        · rw [ha, del_same, hne]
        · rw [del_ne ha, rest b ha hb, upd_ne ha]
    rw [same]
    exact go dx n1
  have hl : (Value.ref (hp.objs.size + 1) :: us).length = ps.length := by
    rw [← rv.length, F1.len _ _ _ _ ask]
  have few : us.length ≤ sizeLine := by
    rw [← Paired.length r1, sizeLine_eq]
    omega
  have bd := hb ⟨(hp.push (PySem.W.kdv_tup us)).push (PySem.HandSPX.excO C hp.objs.size), g, dr, tk, os⟩ (Value.ref (hp.objs.size + 1) :: us) I2.kIn (by simpa using hl)
  rw [List.append_nil] at bd
  refine wpAny_call (PySem.HandSPX.call_own FB (fun Y => PySem.W.excTail_contains Y bm tl) (I1.kIn _ _ lk) (PySem.W.looks_findIn I1.kIn T.iC) (fun self => PySem.W.bind_fn I1.kIn self T.iT) few
    (codeAny_mono (F1.run _ X.stack _ _ ⟨Value.ref (hp.objs.size + 1) :: us, []⟩ (Value.ref (hp.objs.size + 1) :: us) _ _ (fun _ _ _ => False) (hr.make C us []) (I2.env0.make C us []) bd rv ask) fun r s' got => ?_))
  cases r with
  | error er =>
    obtain ⟨_, _, _, _, _, _, _, _, _, _, _, _, no⟩ := got
    exact no.elim
  | ok fl =>
    cases fl with
    | ret u =>
      obtain ⟨v, H2, os2, bare2, un2, hok2, rw2, ev, d, fs, ea, ed, hd1, q2⟩ := got
      subst ev
      obtain ⟨h2, g2, d2, t2, os'⟩ := s'
      exact ⟨rw2, mk_end (raises_own T.k.exC T.k.tyC) I1 up1 stay un2 hok2 os2 bare2 ea ed hd1 q2⟩
    | next => exact got.elim
    | brk => exact got.elim
    | cont => exact got.elim
/-- the fields that stay: the last first -/
def xdOf (names : List Str) (ds : List D) : D := xdD (names.zip ds).reverse
def raiseS (c : Str) (names : List Str) (sa : AS) : SS := fun ρ => match sa ρ with
  | some (.ok ws ρ') => (match datsW ws with
    | some ds => if ds.length = names.length ∧ ds.length ≤ 1000 then some (.ex c (some (xdOf names ds)) ρ') else none
    | none => none)
  | some (.ex c d ρ') => some (.ex c d ρ')
  | none => none
theorem paired_snoc {α β : Type} {F : α → β → Prop} : ∀ {l : List α} {m : List β} {a : α} {b : β}, Paired F l m → F a b → Paired F (l ++ [a]) (m ++ [b])
  | _, _, _, _, .nil, h => .cons h .nil
  | _, _, _, _, .cons r t, h => .cons r (paired_snoc t h)
theorem paired_rev {α β : Type} {F : α → β → Prop} : ∀ {l : List α} {m : List β}, Paired F l m → Paired F l.reverse m.reverse
  | _, _, .nil => .nil
  | _, _, .cons r t => by
    rw [List.reverse_cons, List.reverse_cons]
    exact paired_snoc (paired_rev t) r
theorem paired_zip {G : Hp} : ∀ {names : List Str} {vs : List V} {ds : List D}, RepAll X.K G vs ds → Paired (XfR X G) (names.zip vs) (names.zip ds)
  | [], _, _, _ => .nil
  | _ :: _, _, _, .nil => .nil
  | n :: names, _, _, .cons h r => .cons ⟨rfl, h⟩ (paired_zip r)
theorem okRaise {x : Str} {C fI : Addr} {names : List Str} {k : Nat} {fd : FuncData} {ps : List Str} {sa : AS} {pos' : Pos} (hc : X.calm = true) (tk : Takes X Wx) (T : ExI X.K C fI names) (F1 : FnOk X.prog X.w X.K X.mg X.base (L2.CX X.prog X.w) k fI fd ps (initSp X.K names)) (hr : Room (k + 1) X.A) (hb : Binds X.K fd ps []) (hg : Gl X x) (hm : X.mg x = some (.ref C)) (ha : OkA X Wx (e :: es) sa)
    (hdb : (x == ("__debug__" : Str)) = false := by decide) (he : starEach (e :: es) X.env = (false, eval e X.env) :: starEach es X.env := by rfl) (hpl : (backTo pos (starEach es X.env)).any (·.1) = false := by rfl) :
    OkS X Wx (.Raise (some (.Call (.Name x p) (e :: es) [] pos)) none pos') (raiseS x names sa) := by
  obtain ⟨t, pa, qa⟩ := ha
  refine ⟨_, ps_raise hc tk (pmk_x T F1 hr hb hg hm pa hdb he hpl), fun g σ H ρ E S h => ?_⟩
  have h : PostS X Wx g H (match sa ρ with
    | some (.ok ws ρ') => (match datsW ws with
      | some ds => if ds.length = names.length ∧ ds.length ≤ 1000 then some (.ex x (some (xdOf names ds)) ρ') else none
      | none => none)
    | some (.ex c d ρ') => some (.ex c d ρ')
    | none => none) E := h
  refine qa g σ H ρ _ S ?_
  cases es' : sa ρ with
  | none => rw [es'] at h; exact h
  | some r =>
    rw [es'] at h
    cases r with
    | ex c d ρ' => exact fun g' H' cv da x1 S1 xr => h g' σ H' cv da x1 S1 xr
    | ok ws ρ' =>
      dsimp only at h
      cases ed : datsW ws with
      | none => rw [ed] at h; exact h.elim
      | some ds =>
        rw [ed] at h
        dsimp only at h
        by_cases hl : ds.length = names.length ∧ ds.length ≤ 1000
        · rw [if_pos hl] at h
          intro g' H' vs x1 S1 rel
          have ra := RepWs.dats rel ed
          have lv : vs.length = ds.length := ra.length
          refine ⟨by omega, by omega, fun d nd => ?_⟩
          obtain ⟨x2, S2⟩ := S1.freeze (p := d) (o := .xd (names.zip vs).reverse) nd
          have up : Same g'.G (upd g'.G d (.xd (names.zip vs).reverse)) := x2.up
          exact h _ σ _ (.ref C) (some d) (x1.trans x2) S2 ⟨C, rfl, hm, d, (names.zip vs).reverse, (names.zip ds).reverse, rfl, rfl, upd_same, paired_rev (paired_zip (RepAll.mono up ra))⟩
        · rw [if_neg hl] at h; exact h.elim
end
end Py

namespace Py
open PySem PySem.Spec PyProof.Rows L2
/-! ### try: .. except C as e: .. -/
abbrev WN : WX := fun _ _ _ _ => False
/-- in an except suite: slot i holds the caught exception at a, with these fields -/
def XS (X : Cx) (i : Nat) (C a : Addr) (cls : Value) (d : Option Addr) (g : Gh) (σ : L2.St) (kvs : List (Str × D)) : Prop :=
  σ[i]? = some (some (.ref a)) ∧ cls = .ref C ∧ ∃ (dd : Addr) (fs : List (Str × V)), d = some dd ∧ g.G dd = some (.xd fs) ∧ Paired (XfR X g.G) fs kvs
abbrev XES := List (Str × D) → ES
abbrev XAS := List (Str × D) → AS
abbrev XSS := List (Str × D) → SS
section
variable (X : Cx) (i : Nat) (C : Addr)
def SxE (e : Expr) (s : XES) : Prop := ∀ (a : Addr) (oe : Obj) (cls : Value) (d : Option Addr) (pn : List (Addr × Obj)), Zc cls d oe → (∃ vs, oe.data = .fields vs) → ∃ t, PE (X.suite a ((a, oe) :: pn)) e t ∧ ∀ g σ H ρ kvs Q, SR X g σ H ρ → XS X i C a cls d g σ kvs → PostE X WN g σ H (s kvs ρ) Q → t σ H Q
def SxA (es : List Expr) (s : XAS) : Prop := ∀ (a : Addr) (oe : Obj) (cls : Value) (d : Option Addr) (pn : List (Addr × Obj)), Zc cls d oe → (∃ vs, oe.data = .fields vs) → ∃ t, PA (X.suite a ((a, oe) :: pn)) es t ∧ ∀ g σ H ρ kvs Q, SR X g σ H ρ → XS X i C a cls d g σ kvs → PostA X WN g σ H (s kvs ρ) Q → t σ H Q
def SxS (st : List Stmt) (s : XSS) : Prop := ∀ (a : Addr) (oe : Obj) (cls : Value) (d : Option Addr) (pn : List (Addr × Obj)), Zc cls d oe → (∃ vs, oe.data = .fields vs) → ∃ t, PSs (X.suite a ((a, oe) :: pn)) st t ∧ ∀ g σ H ρ kvs E, SR X g σ H ρ → XS X i C a cls d g σ kvs → PostS X WN g H (s kvs ρ) E → t E σ H
end
section
variable {X : Cx} {Wx : WX} {i : Nat} {C : Addr}
theorem XS.ext {a : Addr} {cls : Value} {d : Option Addr} {g g' : Gh} {σ : L2.St} {kvs : List (Str × D)} {H H' : Hp} (x : Ext g H g' H') (h : XS X i C a cls d g σ kvs) : XS X i C a cls d g' σ kvs := by
  obtain ⟨h1, h2, dd, fs, h3, h4, h5⟩ := h
  exact ⟨h1, h2, dd, fs, h3, x.up _ _ h4, Paired.mono h5 fun _ _ q => ⟨q.1, q.2.mono x.up⟩⟩
/-! what a suite may say -/
def xfE (f : Str) : XES := fun kvs ρ => match kvs.lookup f with
  | some d => some (.ok (.dat d) ρ)
  | none => none
theorem xf_at {G : Hp} {f : Str} {d : D} : ∀ {fs : List (Str × V)} {kvs : List (Str × D)}, Paired (XfR X G) fs kvs → kvs.lookup f = some d → ∃ v, fs.lookup f = some v ∧ Rep X.K G v d
  | _, _, .nil, h => by cases h
  | (a, v) :: fs, (b, o) :: kvs, .cons r t, h => by
    obtain ⟨e, r⟩ := r
    have e : a = b := e
    subst e
    by_cases z : (f == a) = true
    · simp only [List.lookup, z] at h ⊢
      cases h
      exact ⟨v, rfl, r⟩
    · have z : (f == a) = false := by simpa using z
      simp only [List.lookup, z] at h ⊢
      exact xf_at t h
theorem sx_fld {n f : Str} {p1 p2 : Pos} (T : XfC X.K C) (no : PySem.W.findIn X.K (.ref C) f = some none) (hN : X.N[i]? = some n := by rfl) (hv : Vis X.env.scope n := by first | exact Or.inl rfl | exact Or.inr (Or.inl rfl) | exact Or.inr (Or.inr rfl)) (hd : (n == ("__debug__" : Str)) = false := by decide)
    (hcd : (n == ("__classdict__" : Str)) = false := by decide) (hb : attributeBase (.Name n p1) f X.env (eval (.Name n p1) X.env) = eval (.Name n p1) X.env := by rfl) : SxE X i C (.Attribute (.Name n p1) f p2) (xfE f) := by
  intro a oe cls d pn hz hf
  refine ⟨_, pe_xf (X := X) (a := a) (C := C) (cls := cls) (d := d) T no hz hf (pe_var (i := i) (X := X.suite a ((a, oe) :: pn)) hN hv hd hcd) hb, fun g σ H ρ kvs Q S xs h => ?_⟩
  obtain ⟨h1, h2, dd, fs, h3, h4, h5⟩ := xs
  unfold xfE at h
  cases el : kvs.lookup f with
  | none => rw [el] at h; exact h.elim
  | some dv =>
    rw [el] at h
    obtain ⟨v, hl, rv⟩ := xf_at h5 el
    exact ⟨.ref a, h1, rfl, h2, dd, fs, v, h3, S.sub.1 _ _ h4 rfl, hl, PostE.dat S h rv⟩
def xnil : XAS := fun _ => nilS
def xcons (s : XES) (r : XAS) : XAS := fun kvs => consS (s kvs) (r kvs)
theorem sxa_nil : SxA X i C [] xnil := fun a oe cls d pn hz hf => ⟨_, pa_nil, fun g σ H ρ kvs Q S _ h => h g H [] (Ext.refl _ _) S .nil⟩
theorem sxa_cons {e : Expr} {es : List Expr} {s : XES} {r : XAS} (he : SxE X i C e s) (hr : SxA X i C es r) (hs : starEach (e :: es) X.env = (false, eval e X.env) :: starEach es X.env := by rfl) : SxA X i C (e :: es) (xcons s r) := by
  intro a oe cls d pn hz hf
  obtain ⟨t, p, q⟩ := he a oe cls d pn hz hf
  obtain ⟨t', p', q'⟩ := hr a oe cls d pn hz hf
  refine ⟨_, pa_cons p p' hs, fun g σ H ρ kvs Q S xs h => q g σ H ρ kvs _ S xs (PostG.at (Ext.refl _ _) h ?_)⟩
  intro w ρ1 g1 H1 x _ e1 S1 r1 h1
  refine q' g1 σ H1 ρ1 kvs _ S1 (xs.ext e1) (PostG.at e1 h1 ?_)
  intro ws ρ2 g2 H2 ys _ e2 S2 r2 h2
  refine h2 g2 H2 (x :: ys) (e1.trans e2) S2 (.cons (r1.1.ext e2) r1.2 (later_A _ _ _ _ _ _ _ _ e1 r2) fun hf i u z hu hz hzf e => ?_)
  cases w with
  | fresh c =>
    obtain ⟨b, ex, n, o, k⟩ := r1.1
    obtain ⟨y, hy⟩ := k.some
    have hn := (RepWs.get r2 hu hz).2 hzf b (by rw [← e, ex])
    rw [hn] at hy
    cases hy
  | _ => cases hf
theorem sx_tup {es : List Expr} {sa : XAS} {k : Nat} {pos : Pos} (ha : SxA X i C es sa) : SxE X i C (.Tuple es k pos) (fun kvs => callS tupF (sa kvs)) := by
  intro a oe cls d pn hz hf
  obtain ⟨t, p, q⟩ := ha a oe cls d pn hz hf
  refine ⟨_, pe_tup p, fun g σ H ρ kvs Q S xs h => q g σ H ρ kvs _ S xs (PostG.bind later_E h ?_)⟩
  intro ws ρ1 g1 H1 vs _ e1 S1 r1 h1
  unfold tupF at h1
  cases e : datsW ws with
  | none => rw [e] at h1; exact h1.elim
  | some ds =>
    rw [e] at h1
    have r := RepWs.dats r1 e
    by_cases hz : ds.length ≤ lim
    · simp only [hz, if_true] at h1
      exact ⟨by rw [r.length, ← lim_eq]; exact hz, fun p hp => PostE.newTup S1 h1 r hp⟩
    · simp only [hz, if_false] at h1
      exact h1.elim
theorem sx_lst {es : List Expr} {sa : XAS} {pos : Pos} (ha : SxA X i C es sa) : SxE X i C (.List es pos) (fun kvs => callS lstF (sa kvs)) := by
  intro a oe cls d pn hz hf
  obtain ⟨t, p, q⟩ := ha a oe cls d pn hz hf
  refine ⟨_, pe_lst p, fun g σ H ρ kvs Q S xs h => q g σ H ρ kvs _ S xs (PostG.bind later_E h ?_)⟩
  intro ws ρ1 g1 H1 vs _ e1 S1 r1 h1
  unfold lstF at h1
  cases e : datsW ws with
  | none => rw [e] at h1; exact h1.elim
  | some ds =>
    rw [e] at h1
    have r := RepWs.dats r1 e
    by_cases hz : ds.length ≤ lim
    · simp only [hz, if_true] at h1
      exact ⟨by rw [r.length, ← lim_eq]; exact hz, fun p hp => PostE.newList S1 h1 r hp⟩
    · simp only [hz, if_false] at h1
      exact h1.elim
/-- a built-in that is called with what the suite says -/
theorem sx_callB {x : Str} {p pos : Pos} {e : Expr} {es : List Expr} {id : String} {r : List V → Hp → VK → Prop} {F : List W → Env' → Option (R W)} {sa : XAS} (hc : ∀ a pn, CallR (X.suite a pn) (.builtin id) r) (hr : SemC X WN r F) (hg : Gl X x) (hm : X.mg x = none)
    (hv : bootBuiltins x = some (.builtin id)) (ha : SxA X i C (e :: es) sa) (hn : x ≠ "__name__" := by decide) (hdb : (x == ("__debug__" : Str)) = false := by decide)
    (he : starEach (e :: es) X.env = (false, eval e X.env) :: starEach es X.env := by rfl) (hpl : (backTo pos (starEach es X.env)).any (·.1) = false := by rfl) : SxE X i C (.Call (.Name x p) (e :: es) [] pos) (fun kvs => callS F (sa kvs)) := by
  intro a oe cls d pn hz hf
  obtain ⟨t, pa, q⟩ := ha a oe cls d pn hz hf
  refine ⟨_, pe_callB (hc a _) hg hm hv pa hn hdb he hpl, fun g σ H ρ kvs Q S xs h => q g σ H ρ kvs _ S xs (PostG.bind later_E h ?_)⟩
  intro ws ρ1 g1 H1 vs _ e1 S1 r1 h1
  exact hr g1 σ H H1 ρ1 vs ws Q S1 r1 h1
/-- return e -/
def xretS (s : XES) : XSS := fun kvs ρ => match s kvs ρ with
  | some (.ok (.dat d) ρ') => some (.ret (.dat d) ρ')
  | some (.ok (.fresh c) ρ') => some (.ret (.fresh c) ρ')
  | _ => none
theorem sxs_ret {e : Expr} {s : XES} {pos : Pos} (he : SxE X i C e s) : SxS X i C [.Return (some e) pos] (xretS s) := by
  intro a oe cls d pn hz hf
  obtain ⟨t, p, q⟩ := he a oe cls d pn hz hf
  refine ⟨_, pss_cons (ps_ret p) pss_nil, fun g σ H ρ kvs E S xs h => q g σ H ρ kvs _ S xs ?_⟩
  unfold xretS at h
  cases es : s kvs ρ with
  | none => rw [es] at h; exact h.elim
  | some r =>
    rw [es] at h
    cases r with
    | ex c d ρ' => exact h.elim
    | ok w ρ' =>
      have fe : ∀ {H' : Hp} {v : V}, FreshIn H v w → FreshIn g.E v w := fun {H' v} fr hf b e => by
        have := fr hf b e
        cases k : g.E b with
        | none => rfl
        | some y => exact absurd this (S.ea b (by rw [k]; exact fun z => by cases z))
      cases w with
      | dat dv => exact fun g' H' v x1 S1 rel => h g' σ H' v x1 S1 rel.1 (fe (H' := H') rel.2)
      | fresh c => exact fun g' H' v x1 S1 rel => h g' σ H' v x1 S1 rel.1 (fe (H' := H') rel.2)
      | _ => exact h.elim
/-! the statement -/
def unXd : D → Option (List (Str × D))
  | .dict kvs => kvs.mapM fun p => match p.1 with
    | .str f => some (f, p.2)
    | _ => none
  | _ => none
theorem un_xd (kvs : List (Str × D)) : unXd (xdD kvs) = some kvs := by
  unfold unXd xdD
  dsimp only
  induction kvs with
  | nil => rfl
  | cons p r ih =>
    simp only [List.map_cons, List.mapM_cons]
    rw [ih]
    rfl
/-- how a suite ends: its name goes -/
def offO (i : Nat) : Option O → Option O
  | some (.nx ρ) => some (.nx (ρ.set i none))
  | some (.brk ρ) => some (.brk (ρ.set i none))
  | some (.ct ρ) => some (.ct (ρ.set i none))
  | some (.ret (.dat d) ρ) => some (.ret (.dat d) (ρ.set i none))
  | some (.ret (.fresh c) ρ) => some (.ret (.fresh c) (ρ.set i none))
  | _ => none
def tryS (i : Nat) (c : Str) (b : SS) (h : XSS) : SS := fun ρ => match b ρ with
  | some (.ex c' (some d) ρ') => if c' = c then (match unXd d with
    | some kvs => (match ρ'[i]? with
      | some none => offO i (h kvs ρ')
      | _ => none)
    | none => none) else none
  | some (.ex _ none _) => none
  | o => o
theorem SR.tr {pn : List (Addr × Obj)} {xe : Value → Shared → Prop} {g : Gh} {σ : L2.St} {H : Hp} {ρ : Env'} (S : SR X g σ H ρ) : SR (X.tr pn xe) g σ H ρ := ⟨S.sub, S.len, S.slot, S.dis, S.ot, S.ea⟩
theorem SR.untr {pn : List (Addr × Obj)} {xe : Value → Shared → Prop} {g : Gh} {σ : L2.St} {H : Hp} {ρ : Env'} (S : SR (X.tr pn xe) g σ H ρ) : SR X g σ H ρ := ⟨S.sub, S.len, S.slot, S.dis, S.ot, S.ea⟩
/-- the exception's class, by itself -/
theorem exm_self {K : PySem.W.Frag} {C : Addr} (T : ExK K C) (h : PySem.W.subIn K (.ref C) (.ref C) = some true) : PySem.W.exmOne K (.ref C) (.ref C) = some true := by
  obtain ⟨B, nw, ini, bmB, nm, q, N, bs, bm, sn, sub, ab, col, dd, k0, k1, k2, k3, k5, FB, SF, tl, lk⟩ := T.cls
  have e : (PySem.W.clsIn K C).isSome = true := by unfold PySem.W.clsIn; rw [lk] <;> rfl
  unfold PySem.W.exmOne
  rw [if_pos (by rw [T.exC]; rfl)]
  unfold PySem.W.kitCls
  dsimp only
  rw [if_pos (by rw [e, T.tyC]; rfl), h]
theorem okTry {x n : Str} {body suite : List Stmt} {b0 : Stmt} {np pos pos' : Pos} {sb : SS} {ss : XSS} (hs : X.stack = X.env :: X.outer) (hf : X.env.frame = some X.env.locals) (hN : X.N.Nodup) (tk : Takes X Wx) (hg : Gl X x) (hm : X.mg x = some (.ref C)) (ek : ExK X.K C) (self : PySem.W.subIn X.K (.ref C) (.ref C) = some true)
    (hb : ∀ (W : WX) (pn : List (Addr × Obj)) (xe : Value → Shared → Prop), Takes (X.tr pn xe) W → PassesOwn (model X.prog X.w) X.A X.env xe → OkSs (X.tr pn xe) W body sb)
    (hsu : SxS X i C (b0 :: suite) ss) (hi : X.N[i]? = some n := by rfl) (hln : X.env.kindOf n = some .local := by rfl) (hdb : (x == ("__debug__" : Str)) = false := by decide) :
    OkS X Wx (.Try body [.ExceptHandler (some (.Name x np)) (some n) (b0 :: suite) pos'] [] [] pos) (tryS i x sb ss) := by
  let tb : WX → TS := fun W D σ H => ∀ (pn : List (Addr × Obj)) (xe : Value → Shared → Prop) (t : TS), PSs (X.tr pn xe) body t → TrS (X.tr pn xe) W t sb → t D σ H
  let ts : Addr → Value → Option Addr → TS := fun a cls d D σ H => ∀ (oe : Obj) (pn : List (Addr × Obj)) (t : TS), PSs (X.suite a ((a, oe) :: pn)) (b0 :: suite) t → (∀ g σ H ρ kvs E, SR X g σ H ρ → XS X i C a cls d g σ kvs → PostS X WN g H (ss kvs ρ) E → t E σ H) → t D σ H
  have weak : ∀ {Y : Cx} {st : List Stmt} {t t' : TS}, PSs Y st t → (∀ D σ H, t' D σ H → t D σ H) → PSs Y st t' := fun {Y st t t'} p k => ⟨fun pins s σ H D I h => p.run pins s σ H D I (k D σ H h)⟩
  refine ⟨_, ps_try_as (c := .ref C) (tb := tb) (ts := ts) hs hf hN hi hln ⟨hg, hdb, .inl hm⟩ tk (fun W pn xe h1 h2 => ?_) (fun a oe cls d pn hz hfl => ?_), fun g σ H ρ D S h => ?_⟩
  · obtain ⟨t, p, q⟩ := hb W pn xe h1 h2
    exact weak p fun D σ H k => k pn xe t p q
  · obtain ⟨t, p, q⟩ := hsu a oe cls d pn hz hfl
    exact weak p fun D σ H k => k oe pn t p q
  · intro pn xe t p q
    refine q g σ H ρ D S.tr ?_
    unfold tryS at h
    cases eb : sb ρ with
    | none => rw [eb] at h; exact h.elim
    | some o =>
      rw [eb] at h
      cases o with
      | nx ρ' => exact fun g' σ' H' x S' => h g' σ' H' x S'.untr
      | brk ρ' => exact fun g' σ' H' x S' => h g' σ' H' x S'.untr
      | ct ρ' => exact fun g' σ' H' x S' => h g' σ' H' x S'.untr
      | ret w ρ' => exact fun g' σ' H' v x S' r f => h g' σ' H' v x S'.untr (by cases w <;> exact r) f
      | ex c' d ρ' =>
        cases d with
        | none => exact h.elim
        | some d =>
          dsimp only at h
          by_cases hc : c' = x
          · rw [if_pos hc] at h
            intro g' σ' H' cv da x1 S1 xr
            obtain ⟨C', ecv, hm', dd, fs, kvs, eda, ed, hG, pf⟩ := xr
            subst hc
            have hm' : X.mg c' = some (.ref C') := hm'
            rw [hm] at hm'
            cases hm'
            subst ecv
            rw [ed, un_xd] at h
            dsimp only at h
            refine ⟨true, exm_self ek self, fun _ a na oe pn2 t2 p2 q2 => ?_, fun z => by cases z⟩
            have S1 : SR X g' σ' H' ρ' := S1.untr
            cases er : ρ'[i]? with
            | none => rw [er] at h; exact h.elim
            | some sl =>
              cases sl with
              | some sl => rw [er] at h; exact h.elim
              | none =>
                rw [er] at h
                dsimp only at h
                have il : i < ρ'.length := (List.getElem?_eq_some_iff.mp er).1
                have il2 : i < σ'.length := by rw [S1.len]; exact il
                have S2 : SR X g' (σ'.set i (some (.ref a))) H' ρ' := by
                  refine ⟨S1.sub, by simpa using S1.len, fun j s hj => ?_, fun j k s t b hjk hj hk so to e => ?_, S1.ot, S1.ea⟩
                  · have ne : i ≠ j := fun z => by subst z; rw [er] at hj; cases hj
                    obtain ⟨v, h1, h2⟩ := S1.slot j s hj
                    exact ⟨v, by rw [List.getElem?_set_ne ne]; exact h1, h2⟩
                  · have n1 : i ≠ j := fun z => by subst z; rw [er] at hj; cases hj
                    have n2 : i ≠ k := fun z => by subst z; rw [er] at hk; cases hk
                    rw [List.getElem?_set_ne n1] at e
                    rw [List.getElem?_set_ne n2]
                    exact S1.dis j k s t b hjk hj hk so to e
                refine q2 g' (σ'.set i (some (.ref a))) H' ρ' kvs _ S2 ⟨by rw [List.getElem?_set_self il2], rfl, dd, fs, eda, hG, pf⟩ ?_
                have h := PostS.shift x1 h
                cases eo : ss kvs ρ' with
                | none => rw [eo] at h; exact h.elim
                | some o =>
                  rw [eo] at h
                  cases o with
                  | nx r => exact fun g2 σ2 H2 x2 S3 => h g2 _ H2 x2 (S3.clear i)
                  | brk r => exact fun g2 σ2 H2 x2 S3 => h g2 _ H2 x2 (S3.clear i)
                  | ct r => exact fun g2 σ2 H2 x2 S3 => h g2 _ H2 x2 (S3.clear i)
                  | ex c d r => exact h.elim
                  | ret w r =>
                    cases w with
                    | dat dv => exact fun g2 σ2 H2 v x2 S3 rw2 fr => h g2 _ H2 v x2 (S3.clear i) rw2 fr
                    | fresh cl => exact fun g2 σ2 H2 v x2 S3 rw2 fr => h g2 _ H2 v x2 (S3.clear i) rw2 fr
                    | _ => exact h.elim
          · rw [if_neg hc] at h; exact h.elim
end
end Py

namespace Py
open PySem PySem.Spec PyProof.Rows L2
section
variable {P : Program} {w : World} {K : PySem.W.Frag} {mg : Str → Option Value} {base : Heap} {N : List Str} {qual : Str} {st : Stmt} {f : Addr} {cdv : Value} {A : Around} {outer : List Env} {s : Shared} {H : Hp} {E : XK}
theorem tk_body : Takes (bodyX P w K mg base N qual st f cdv A outer s H E) (wxF E) := takes_of rfl rfl rfl rfl
end
section
variable {X : Cx} {i : Nat} {C : Addr}
/-- repr(..) of what a suite says -/
theorem sx_repr {p pos : Pos} {e : Expr} {sa : XAS} (hgd : X.A.guards = some []) (hu : X.A.units + 66 < cLine) (hg : Gl X "repr") (hm : X.mg "repr" = none) (ha : SxA X i C [e] sa)
    (he : starEach [e] X.env = (false, eval e X.env) :: starEach [] X.env := by rfl) (hpl : (backTo pos (starEach [] X.env)).any (·.1) = false := by rfl) : SxE X i C (.Call (.Name "repr" p) [e] [] pos) (fun kvs => callS (cV reprF) (sa kvs)) := by
  refine sx_callB (r := rRepr X.K) (fun a pn => cr_repr (X := X.suite a pn) hgd hu) ?_ hg hm PyProof.Rows.boot_repr ha (he := he) (hpl := hpl)
  intro g σ H0 H ρ vs ws Q S rs p
  unfold cV at p
  split at p
  · rename_i w
    cases rs with
    | cons r _ t _ =>
      cases t
      split at p
      · rename_i d ed
        split at p
        · rename_i d' ef
          simp only [reprF] at ef
          by_cases hh : (d.showable && decide (d.depth ≤ 64) && decide (d.shown.length ≤ lim)) = true
          · rw [if_pos hh] at ef
            have ef := Option.some.inj ef
            subst ef
            simp only [Bool.and_eq_true, decide_eq_true_eq] at hh
            exact ⟨_, d, rfl, (view_rep S r ed).rep S.sub.1, hh.1.1, hh.1.2, hh.2, PostE.dat S p (.str _)⟩
          · rw [if_neg hh] at ef
            cases ef
        · exact p.elim
      · exact p.elim
  · exact p.elim
end
@[simp] theorem raiseS_at (c : Str) (names : List Str) (sa : AS) (ρ : Env') : raiseS c names sa ρ = match sa ρ with
  | some (.ok ws ρ') => (match datsW ws with
    | some ds => if ds.length = names.length ∧ ds.length ≤ 1000 then some (.ex c (some (xdOf names ds)) ρ') else none
    | none => none)
  | some (.ex c d ρ') => some (.ex c d ρ')
  | none => none := rfl
@[simp] theorem tryS_nx {i : Nat} {c : Str} {b : SS} {h : XSS} {ρ ρ' : Env'} (e : b ρ = some (.nx ρ')) : tryS i c b h ρ = some (.nx ρ') := by unfold tryS; rw [e]
@[simp] theorem tryS_ret {i : Nat} {c : Str} {b : SS} {h : XSS} {ρ ρ' : Env'} {w : W} (e : b ρ = some (.ret w ρ')) : tryS i c b h ρ = some (.ret w ρ') := by unfold tryS; rw [e]
theorem tryS_ex {i : Nat} {c : Str} {b : SS} {h : XSS} {ρ ρ' : Env'} {names : List Str} {ds : List D} (e : b ρ = some (.ex c (some (xdOf names ds)) ρ')) (hi : ρ'[i]? = some none) : tryS i c b h ρ = offO i (h (names.zip ds).reverse ρ') := by
  unfold tryS
  rw [e]
  dsimp only
  rw [if_pos rfl]
  unfold xdOf
  rw [un_xd]
  dsimp only
  rw [hi]
end Py

namespace Py
open PySem PySem.Spec PyProof.Rows L2
/-- a def of which nothing is said: where a recursion is cut off -/
theorem fnM_none {P : Program} {w : World} {K : PySem.W.Frag} {mg : Str → Option Value} {base : Heap} {k : Nat} {f : Addr} {fd : FuncData} {ps : List Str} : FnM P w K mg base k f fd ps (fun _ => none) :=
  ⟨fun _ _ h => (nomatch h), by
    intro X _ _ A outer s H args us vs ws g r Q E _ _ _ _ _ _ h
    cases h⟩
end Py

namespace Py
open PySem PySem.Spec PyProof.Rows L2
/-! ### own dicts with tuples of ints for keys, True for values -/
section
variable {X : Cx} {Wx : WX}
def keyT (k : List Int) : List Key := k.map Sum.inl
def kvT (ks : List (List Int)) : List (List Key × V) := ks.map fun k => (keyT k, V.bl true)
theorem keyT_inj {k j : List Int} (h : keyT k = keyT j) : k = j := by
  unfold keyT at h
  exact (List.map_inj_right (fun a b e => by injection e)).mp h
theorem keyT_V (k : List Int) : (keyT k).map kV = k.map V.int := by
  unfold keyT
  rw [List.map_map]
  rfl
theorem repAll_ints {K : PySem.W.Frag} {G : Hp} : ∀ {vs : List V} {k : List Int}, RepAll K G vs (k.map PyData.int) → vs = k.map V.int
  | _, [], .nil => rfl
  | _, i :: k, .cons h r => by
    cases h
    rw [List.map_cons, repAll_ints r]
theorem rep_key {G H : Hp} {x : V} {ds : List D} {k : List Int} (sub : Sm G H) (h : Rep X.K G x (.tuple ds)) (e : intsOf ds = some k) : ∃ b, x = .ref b ∧ H b = some (.tup ((keyT k).map kV)) := by
  have e2 := intsOf_eq e
  subst e2
  cases h with
  | tup hg r =>
    rw [repAll_ints r] at hg
    exact ⟨_, rfl, by rw [keyT_V]; exact sub _ _ hg rfl⟩
theorem valV_kvT (ks : List (List Int)) (k : List Int) : (valV (kvT ks) (keyT k)).isSome = decide (k ∈ ks) := by
  rw [← valV_any, Bool.eq_iff_iff, List.any_eq_true, decide_eq_true_eq]
  unfold kvT
  constructor
  · rintro ⟨p, hp, e⟩
    obtain ⟨j, hj, rfl⟩ := List.mem_map.mp hp
    have e : keyT j = keyT k := of_decide_eq_true e
    rw [← keyT_inj e]
    exact hj
  · intro h
    exact ⟨_, List.mem_map.mpr ⟨k, h, rfl⟩, by simp⟩
/-- {k: v}, a tuple for a key -/
def tDispT (tk tv : TE) : TE := fun σ H Q => ∀ p, H p = none → tPairs [(tk, tv)] σ (upd H p (.dT [])) fun ps H2 => H2 p = some (.dT []) ∧ ∃ b k y, ps = [(.ref b, y)] ∧ H2 b = some (.tup (k.map kV)) ∧ Q (.ref p) (upd H2 p (.dT [(k, y)]))
theorem pe_dispT {ke ve : Expr} {pos : Pos} {tk tv : TE} (hu : X.A.units + 1 < cLine) (hk : PE X ke tk) (hv : PE X ve tv) : PE X (.Dict [some ke] [ve] pos) (tDispT tk tv) := by
  refine ⟨fun pins s σ H Q I q => ?_⟩
  have hn := I.hok.fresh (Nat.le_refl s.heap.objs.size)
  have I1 := I.laid (a := s.heap.objs.size) (o := .dT []) (h' := s.heap.push { cls := .type "dict", data := .dict #[] }) (t' := s.toks) (fun _ _ q => Heap.get?_push_of_some _ q) (Nat.le_refl _) (dt_empty s.heap I.big)
  refine wpAny_Dict_any rfl rfl (by simp) (by simp) (thn ((pps_cons hk hv pps_nil).run pins _ σ _ _ I1 (q _ hn)) fun ws s2 ⟨ps, H2, I2, rel, e, b, k, y, ep, eb, q2⟩ => ?_)
  subst ep
  cases rel with
  | @cons p r ps rs hr ht =>
    cases ht
    obtain ⟨u1, u2⟩ := r
    obtain ⟨h1, h2⟩ := hr
    dsimp only at h1 h2
    cases (show u1 = Value.ref b from h1)
    obtain ⟨z, hd, xs, rel, dd⟩ := dt_of I2.hok e
    cases rel
    refine wpAny_storeAllH (knd := tupleKind (mixKind X.prog X.w)) (show X.A.units < cLine by omega) [(Value.ref b, u2)] [(k, b, u2)] [] s2 _ ⟨rfl, rfl, key_of I2.hok eb, trivial⟩ dd (by rw [sizeLine_eq]; simp) fun h' tk dd' hs => ?_
    obtain ⟨q, es, ep, hq, g2, g3, g4, _, g5⟩ := dd'
    refine ⟨.ref s.heap.objs.size, _, d_write (ob := .dT [(k, y)]) I2 (by rw [e]; exact True.intro) hs ⟨q, hq⟩ ⟨by rw [sizeLine_eq]; simp, hd, _, (KT.put (kvs := []) (xs := []) .nil k eb h2).keeps fun c ys ec => ?_, q, es, ep, hq, g2, g3, g4, g5⟩, rfl, ?_⟩
    · rw [upd_ne (ne_of ec e (fun z => nomatch z))]
      exact ec
    · exact q2
def dtS (s : ES) : ES := fun ρ => bnd (s ρ) fun w ρ => match w with
  | .dat (.tuple ds) => (match intsOf ds with
    | some k => some (.ok (.fresh (.dtt [k])) ρ)
    | none => none)
  | _ => none
theorem okDT {e : Expr} {s : ES} {j : Nat} {p2 pos : Pos} (hu : X.A.units + 66 < cLine) (he : OkE X Wx e s) : OkE X Wx (.Dict [some e] [.Constant (.bool true) j p2] pos) (dtS s) := by
  obtain ⟨t, p, q⟩ := he
  refine ⟨_, pe_dispT (by omega) p pe_bl, fun g σ H ρ Q S h => ?_⟩
  intro a ha
  obtain ⟨x1, S1⟩ := S.lay (o := .dT []) ha
  show t σ (upd H a (.dT [])) fun x H1 => _
  refine q g σ _ ρ _ S1 (PostG.at x1 h ?_)
  intro w ρ1 g1 H1 x _ e1 S2 r1 h1
  have ga : g.G a = none := S.sub.free ha
  have oa : ¬ g.O a := fun z => S.ot a z ha
  obtain ⟨k1, k2, k3⟩ := e1.fr a _ upd_same ga oa
  cases w with
  | dat d =>
    cases d with
    | tuple ds =>
      dsimp only at h1
      cases ek : intsOf ds with
      | none => rw [ek] at h1; exact h1.elim
      | some k =>
        rw [ek] at h1
        obtain ⟨b, rfl, hb⟩ := rep_key S2.sub.1 r1.1 ek
        refine ⟨k1, b, keyT k, .bl true, rfl, hb, ?_⟩
        have E := x1.trans e1
        have E2 : Ext g H g1 (upd H1 a (.dT [(keyT k, .bl true)])) := ⟨E.up, fun b y hb n ob => by
            obtain ⟨p1, p2, p3⟩ := E.fr b y hb n ob
            exact ⟨by rw [upd_ne (ne_of_none hb ha)]; exact p1, p2, p3⟩, fun b hb => by
            by_cases hba : b = a
            · subst hba; exact absurd ha hb
            · rw [upd_ne hba]; exact E.al b hb, E.bb, E.be⟩
        have S3 := SR.poke (o := .dT [(keyT k, .bl true)]) S2 k2 k3 (by rw [k1]; simp)
        exact h1 _ _ (.ref a) E2 S3 ⟨⟨a, rfl, k2, k3, upd_same⟩, fun _ c e => by cases e; exact ha⟩
    | _ => exact h1.elim
  | _ => exact h1.elim
/-! in, not in -/
def dtAt (z : W) (ρ : Env') : Option (List (List Int)) := match z with
  | .own i => (match cellAt ρ i with
    | some (.dtt ks) => some ks
    | _ => none)
  | .fresh (.dtt ks) => some ks
  | _ => none
def gDIn (f : Bool → Bool) : W → W → Env' → Option (R W) := fun w z ρ => match w with
  | .dat (.tuple ds) => (match intsOf ds with
    | some k => (match dtAt z ρ with
      | some ks => some (.ok (.dat (.bool (f (decide (k ∈ ks))))) ρ)
      | none => none)
    | none => none)
  | _ => none
def rDIn (f : Bool → Bool) : R2 := fun x y H Q => ∃ a o, y = .ref a ∧ DGet H a x o ∧ Q (.bl (f o.isSome)) H
theorem dt_at {g : Gh} {σ : L2.St} {H : Hp} {ρ : Env'} {y : V} {z : W} {ks : List (List Int)} (S : SR X g σ H ρ) (r : RepW X g σ H y z) (h : dtAt z ρ = some ks) : ∃ a, y = .ref a ∧ H a = some (.dT (kvT ks)) := by
  cases z with
  | own i =>
    unfold dtAt at h
    dsimp only at h
    split at h
    · rename_i ks' ec
      cases h
      obtain ⟨a, ha, _, _, q⟩ := S.cell ec
      have r : σ[i]? = some (some y) := r
      rw [ha] at r
      cases r
      exact ⟨a, rfl, q⟩
    · cases h
  | fresh c =>
    cases c with
    | dtt ks' =>
      cases h
      obtain ⟨a, rfl, _, _, q⟩ := r
      exact ⟨a, rfl, q⟩
    | _ => cases h
  | _ => cases h
theorem sem_dIn (f : Bool → Bool) : Sem2 X Wx (rDIn f) (gDIn f) := by
  intro g σ H ρ x y w z Q S rx ry h
  unfold gDIn at h
  cases w with
  | dat d =>
    cases d with
    | tuple ds =>
      dsimp only at h
      cases ek : intsOf ds with
      | none => rw [ek] at h; exact h.elim
      | some k =>
        rw [ek] at h
        dsimp only at h
        cases ez : dtAt z ρ with
        | none => rw [ez] at h; exact h.elim
        | some ks =>
          rw [ez] at h
          obtain ⟨b, rfl, hb⟩ := rep_key S.sub.1 rx ek
          obtain ⟨a, rfl, ha⟩ := dt_at S ry ez
          refine ⟨a, _, rfl, DGet.t ha hb, ?_⟩
          rw [valV_kvT]
          exact h g H _ (Ext.refl _ _) S ⟨.bl _, FreshIn.dat⟩
    | _ => exact h.elim
  | _ => exact h.elim
theorem so_dIn (hu : X.A.units + 65 < cLine) : SemOp X Wx (compareOp .In) (gDIn id) := ⟨rDIn id, by
  intro pins s σ H x y v u Q I rx ry ⟨a, o, ey, g, q⟩
  subst ey
  cases (show u = Value.ref a from ry)
  exact d_in (by omega) I g rx fun s' I' => ⟨.bl o.isSome, _, I', rfl, q⟩, sem_dIn id⟩
theorem so_dNotIn (hu : X.A.units + 65 < cLine) : SemOp X Wx (compareOp .NotIn) (gDIn not) := ⟨rDIn not, by
  intro pins s σ H x y v u Q I rx ry ⟨a, o, ey, g, q⟩
  subst ey
  cases (show u = Value.ref a from ry)
  exact d_notIn (by omega) I g rx fun s' I' => ⟨.bl (!o.isSome), _, I', rfl, q⟩, sem_dIn not⟩
/-! d[k] = True -/
def rPutT : TSet := fun o i v H Q => ∃ a H', o = .ref a ∧ DPut H a i v H' ∧ Q H'
theorem set_dT (hu : X.A.units + 65 < cLine) : PSet X rPutT := by
  intro pins s σ H o i v ov iv u Q I ro ri rv ⟨a, H', eo, g, q⟩
  subst eo
  cases (show ov = Value.ref a from ro)
  exact d_setItem (by omega) I g ri rv fun s' I' => ⟨H', I', q⟩
def dxG (so si : ES) : TgF := fun d ρ => toS (so ρ) fun w ρ => toS (si ρ) fun k ρ => match w, k, d with
  | .own i, .dat (.tuple ds), .bool true => (match cellAt ρ i with
    | some (.dtt ks) => (match intsOf ds with
      | some k => if k ∈ ks ∨ lim ≤ ks.length then none else some (.nx (setCell ρ i (.dtt (ks ++ [k]))))
      | none => none)
    | _ => none)
  | _, _, _ => none
theorem putK_kvT {ks : List (List Int)} {k : List Int} (h : k ∉ ks) : putK (kvT ks) (keyT k) (V.bl true) = kvT (ks ++ [k]) := by
  have e : valV (kvT ks) (keyT k) = none := by
    have := valV_kvT ks k
    rw [decide_eq_false h] at this
    simpa using this
  rw [L2.putK_new _ e]
  unfold kvT
  rw [List.map_append]
  rfl
theorem okG_dx {o i : Expr} {so si : ES} {pos : Pos} (hu : X.A.units + 65 < cLine) (ho : OkE X Wx o so) (hi : OkE X Wx i si)
    (ha : ∀ v, assign (.Subscript o i pos) X.env v = (do
      let ov ← holding [v] (eval o X.env)
      let iv ← holding [v, ov] (eval i X.env)
      standAt pos
      holding [v, ov, iv] (setItem ov iv v)
      release [v, ov, iv] []) := by intro _; rfl) : OkG X Wx (.Subscript o i pos) (dxG so si) := by
  obtain ⟨t, p, q⟩ := ho
  obtain ⟨t', p', q'⟩ := hi
  refine ⟨_, pg_sub p p' (set_dT hu) ha, fun g σ H ρ v d E S r h => q g σ H ρ _ S (PostS.bind h ?_)⟩
  intro w ρ1 g1 H1 x _ e1 S1 r1 h1
  refine q' g1 σ H1 ρ1 _ S1 (PostS.bind (PostS.shift e1 h1) ?_)
  intro k ρ2 g2 H2 y _ e2 S2 r2 h2
  split at h2
  · rename_i j ds _ _
    split at h2
    · rename_i ks ec
      split at h2
      · rename_i k ek
        split at h2
        · exact h2.elim
        · rename_i hn
          rw [not_or] at hn
          obtain ⟨a, ha, n, oa, qc⟩ := S2.cell ec
          have rx : σ[j]? = some (some x) := r1.1.ext e2
          rw [ha] at rx
          cases rx
          obtain ⟨b, rfl, hb⟩ := rep_key S2.sub.1 r2.1 ek
          cases r
          obtain ⟨x3, S3⟩ := S2.mut (o := .dT (kvT (ks ++ [k]))) (c' := .dtt (ks ++ [k])) ec ha upd_same
          refine ⟨a, _, rfl, DPut.t (kvs := kvT ks) (k := keyT k) (v := .bl true) qc hb (by rw [sizeLine_eq]; simp [kvT]; have := hn.2; unfold lim at this; omega), ?_⟩
          have hp := putK_kvT hn.1
          rw [hp]
          exact (PostS.shift e2 h2) _ σ _ x3 S3
      · exact h2.elim
    · exact h2.elim
  · exact h2.elim
end
end Py

namespace Py
open PySem PySem.Spec PyProof.Rows L2
/-! ### l.pop(j) of an own list -/
def popAtF : W → List W → Env' → Option (R W) := fun w ws ρ => match w, ws with
  | .own i, [.dat (.int j)] => (match cellAt ρ i with
    | some (.lst ds) => if 0 ≤ j ∧ j < (ds.length : Nat) ∧ ds.length < 1000000 then (match ds[j.toNat]? with
      | some d => some (.ok (.dat d) (setCell ρ i (.lst (ds.eraseIdx j.toNat))))
      | none => none) else none
    | _ => none)
  | _, _ => none
section
variable {X : Cx} {Wx : WX}
theorem RepAll.erase {K : PySem.W.Frag} {G : Hp} : ∀ {vs : List V} {ds : List D} (i : Nat), RepAll K G vs ds → RepAll K G (vs.eraseIdx i) (ds.eraseIdx i)
  | _, _, _, .nil => .nil
  | _, _, 0, .cons _ r => r
  | _, _, i + 1, .cons q r => .cons q (RepAll.erase i r)
theorem sm_popAt : SemM X Wx "list" rPopAt ownLst popAtF := by
  refine ⟨fun g σ H ρ x w S r h => own_ty S r h, fun g σ H0 H ρ x w vs ws Q S r rs p => ?_⟩
  unfold popAtF at p
  split at p
  · rename_i i j
    split at p
    · rename_i ds ec
      split at p
      · rename_i hj
        split at p
        · rename_i d ed
          obtain ⟨a, xs, rfl, ha, h1, h2⟩ := cell_at S r ec
          cases rs with
          | cons rj _ t _ =>
            cases t
            cases (show Rep X.K g.G _ (.int j) from rj)
            obtain ⟨y, hy, ry⟩ := h2.get ed
            obtain ⟨x2, S2⟩ := S.mut (o := .lst (xs.eraseIdx j.toNat)) (c' := .lst (ds.eraseIdx j.toNat)) ec ha ⟨_, upd_same, h2.erase _⟩
            have hl := h2.length
            refine ⟨_, _, j, j.toNat, y, rfl, rfl, h1, by omega, by omega, ?_, hy, p g _ y x2 S2 ⟨ry, FreshIn.dat⟩⟩
            unfold seqIndex?
            have n0 : ¬ j < 0 := by omega
            have l1 : j < ((xs.length : Nat) : Int) := by omega
            simp [n0, hj.1, l1]
        · exact p.elim
      · exact p.elim
    · exact p.elim
  · exact p.elim
theorem okpopAt {o e : Expr} {apos cpos : Pos} {so : ES} {sa : AS} (ho : OkE X Wx o so) (ha : OkA X Wx [e] sa)
    (hbase : attributeBase o "pop" X.env (eval o X.env) = eval o X.env := by rfl)
    (hfew : ((backTo cpos (starEach [e] X.env)).all (fun x => !x.1) && (backToKw cpos (keywordEach [] X.env)).all (fun x => x.1.isSome)
      && decide ([e].length + ([] : List Keyword).length + (if ([] : List Keyword).isEmpty then 0 else 1) < 30)) = true := by rfl)
    (hline : (apos.endLine == cpos.line) = true := by rfl) (hs : starEach [e] X.env = (false, eval e X.env) :: starEach [] X.env := by rfl) (hplain : (backTo cpos (starEach [] X.env)).any (·.1) = false := by rfl) :
    OkE X Wx (.Call (.Attribute o "pop" apos) [e] [] cpos) (methS ownLst popAtF so sa) := okMeth PySem.F.plainAttrs_list PySem.F.slot_list_pop PySem.F.type_list_pop mt_popAt sm_popAt ho ha hbase hfew hline hs hplain
/-! ### an except suite that appends what it says to an own list -/
def xappS (j : Nat) (s : XES) : XSS := fun kvs ρ => if ownLst (.own j) ρ = true then (match s kvs ρ with
  | some (.ok (.dat d) ρ') => (match cellAt ρ' j with
    | some (.lst ds) => if ds.length < lim then some (.nx (setCell ρ' j (.lst (ds ++ [d])))) else none
    | _ => none)
  | _ => none) else none
theorem sxs_append {i j : Nat} {C : Addr} {n : Str} {e : Expr} {s : XES} {p1 p2 p3 pos : Pos} (he : SxE X i C e s) (hN : X.N[j]? = some n := by rfl) (hv : Vis X.env.scope n := by first | exact Or.inl rfl | exact Or.inr (Or.inl rfl) | exact Or.inr (Or.inr rfl)) (hd : (n == ("__debug__" : Str)) = false := by decide)
    (hcd : (n == ("__classdict__" : Str)) = false := by decide)
    (hbase : attributeBase (.Name n p1) "append" X.env (eval (.Name n p1) X.env) = eval (.Name n p1) X.env := by rfl)
    (hfew : ((backTo p3 (starEach [e] X.env)).all (fun x => !x.1) && (backToKw p3 (keywordEach [] X.env)).all (fun x => x.1.isSome)
      && decide ([e].length + ([] : List Keyword).length + (if ([] : List Keyword).isEmpty then 0 else 1) < 30)) = true := by rfl)
    (hline : (p2.endLine == p3.line) = true := by rfl) (hs : starEach [e] X.env = (false, eval e X.env) :: starEach [] X.env := by rfl) (hplain : (backTo p3 (starEach [] X.env)).any (·.1) = false := by rfl)
    (hsw : swapsWith (.Call (.Attribute (.Name n p1) "append" p2) [e] [] p3) none pos.line X.env = pure false := by rfl) :
    SxS X i C [.Expr (.Call (.Attribute (.Name n p1) "append" p2) [e] [] p3) pos] (xappS j s) := by
  intro a oe cls d pn hz hf
  obtain ⟨t, p, q⟩ := he a oe cls d pn hz hf
  refine ⟨_, pss_cons (ps_expr (pe_bm (X := X.suite a ((a, oe) :: pn)) PySem.F.plainAttrs_list PySem.F.slot_list_append PySem.F.type_list_append mt_append (pe_var (i := j) (X := X.suite a ((a, oe) :: pn)) hN hv hd hcd) (pa_cons p pa_nil hs) hbase hfew hline hs hplain) hsw) pss_nil, fun g σ H ρ kvs E S xs h => ?_⟩
  unfold xappS at h
  split at h
  · rename_i ow
    unfold ownLst at ow
    dsimp only at ow
    split at ow
    · rename_i ds0 ec0
      obtain ⟨b, hb, _, _, vs0, hb1, _⟩ := S.cell ec0
      cases es : s kvs ρ with
      | none => rw [es] at h; exact h.elim
      | some r =>
        rw [es] at h
        cases r with
        | ex c d ρ' => exact h.elim
        | ok w ρ' =>
          cases w with
          | dat dv =>
            dsimp only at h
            cases ec : cellAt ρ' j with
            | none => rw [ec] at h; exact h.elim
            | some c =>
              rw [ec] at h
              cases c with
              | lst ds =>
                dsimp only at h
                split at h
                · rename_i hlt
                  refine ⟨.ref b, hb, .inl ⟨rfl, vs0, .of hb1⟩, q g σ H ρ kvs _ S xs ?_⟩
                  rw [es]
                  intro g' H' v x1 S1 rel
                  obtain ⟨b', hb', _, _, vs1, hc1, hc2⟩ := S1.cell ec
                  rw [hb] at hb'
                  cases hb'
                  obtain ⟨x2, S2⟩ := S1.mut (o := .lst (vs1 ++ [v])) (c' := .lst (ds ++ [dv])) ec hb ⟨_, upd_same, hc2.append (.cons rel.1 .nil)⟩
                  exact ⟨b, vs1, v, rfl, rfl, hc1, by rw [hc2.length, ← lim_eq]; exact hlt, h _ _ _ (x1.trans x2) S2⟩
                · exact h.elim
              | _ => exact h.elim
          | _ => exact h.elim
    · cases ow
  · exact h.elim
end
/-! ### an own class called with keywords -/
def fMakeK (c : Str) (F : FS) (n m : Nat) (is : List Nat) (sa sk : AS) : ES := fun ρ => bnd (sa ρ) fun ws ρ => bnd (sk ρ) fun zs ρ => if ws.length = n ∧ zs.length = m then (match permW is (ws ++ zs) with
  | some xs => runMake c F xs ρ
  | none => none) else none
section
variable {X : Cx} {Wx : WX} {k : Nat} {f C : Addr} {fd : FuncData} {ps : List Str} {F : FS}
theorem permU_up {u : Value} : ∀ {is : List Nat} {l r : List Value}, permU is l = some r → permU (is.map (· + 1)) (u :: l) = some r
  | [], _, _, h => h
  | i :: is, l, r, h => by
    unfold permU at h
    cases e : l[i]? with
    | none => rw [e] at h; cases h
    | some v =>
      rw [e] at h
      dsimp only at h
      cases e2 : permU is l with
      | none => rw [e2] at h; cases h
      | some ys =>
        rw [e2] at h
        cases h
        rw [List.map_cons]
        unfold permU
        have e3 : (u :: l)[i + 1]? = some v := by simpa using e
        rw [e3, permU_up e2]
theorem run_mkK {pins : List (Addr × Obj)} {σ : L2.St} {H : Hp} {s : Shared} {Q : VK} {ks : List Str} {n : Nat} {is : List Nat} {us ws : List Value} {ys : List Value} {xs : List V} (M : Mk X.K C f) (Fm : FnM X.prog X.w X.K X.mg X.base k f fd ps F) (cx : CtxOk X Wx) (hg : X.A.guards = some []) (hr : Room (k + 1) X.A)
    (hb : KB X.K fd ps ks (n + 1) (0 :: is.map (· + 1))) (hl1 : us.length = n) (hl2 : ws.length = ks.length) (hp : permU is (us ++ ws) = some ys)
    (I : Inv X pins σ H s) (r : Vals xs ys) (h : tMk X Wx C F σ xs H Q) : wpAny (model X.prog X.w) X.A (call (.ref C) us (ks.zip ws)) (EP X pins σ Q) X.xe s := by
  have nx : s.heap.objs.size ≠ s.heap.objs.size + 1 := Nat.ne_of_lt (Nat.lt_succ_self _)
  obtain ⟨g, zs, rr, AR, hF, post⟩ := h _ _ (I.hok.fresh (Nat.le_succ _)) (I.hok.fresh (Nat.le_refl _)) nx
  have J := Inv.made (C := C) I
  have r2 : Vals (V.ref (s.heap.objs.size + 1) :: xs) (Value.ref (s.heap.objs.size + 1) :: ys) := .cons rfl r
  have pu : permU (0 :: is.map (· + 1)) ((Value.ref (s.heap.objs.size + 1) :: us) ++ ws) = some (Value.ref (s.heap.objs.size + 1) :: ys) := by
    have := permU_up (u := Value.ref (s.heap.objs.size + 1)) hp
    unfold permU
    rw [List.cons_append, this]
    rfl
  have bt := hb.to _ (Value.ref (s.heap.objs.size + 1) :: us) ws _ J.kIn (by rw [List.length_cons, hl1]) hl2 pu
  have body := Fm.run X rfl rfl _ X.stack _ _ ⟨Value.ref (s.heap.objs.size + 1) :: us, ks.zip ws⟩ _ _ zs g rr _ (WE Wx σ) (guards_make hg) (hr.make C us (ks.zip ws)) (J.env0.make C us (ks.zip ws)) bt r2 AR hF post
  refine wpAny_call (make_map (f := f) I.kIn M.makes M.init (beq_iff_eq.mp M.fn) (codeAny_mono body fun res s' hq' => ?_))
  cases res with
  | error e => exact PassesAt.use cx J hq'
  | ok fl =>
    cases fl with
    | ret u =>
      obtain ⟨v, H', J3, rv, ev, q3⟩ := J.after hq'
      subst ev
      exact ⟨rv, V.ref (s.heap.objs.size + 1), H', J3, rfl, q3⟩
    | next => exact hq'.elim
    | brk => exact hq'.elim
    | cont => exact hq'.elim
theorem okMakeK {x : Str} {p pos : Pos} {e : Expr} {es : List Expr} {kws : List Keyword} {sa sk : AS} {ks : List Str} {n m : Nat} {is : List Nat} (M : Mk X.K C f) (Fm : FnM X.prog X.w X.K X.mg X.base k f fd ps F) (cx : CtxOk X Wx) (hgd : X.A.guards = some []) (hr : Room (k + 1) X.A) (hg : Gl X x) (hm : X.mg x = some (.ref C))
    (hb : KB X.K fd ps ks (n + 1) (0 :: is.map (· + 1))) (ha : OkA X Wx (e :: es) sa) (hkw : OkK X Wx kws sk) (hkl : ks.length = m) (nd : is.Nodup) (hall : (backToKw pos (keywordEach kws X.env)).all (·.1.isSome) = true := by rfl) (hks : (backToKw pos (keywordEach kws X.env)).filterMap (·.1) = ks := by rfl)
    (hdb : (x == ("__debug__" : Str)) = false := by decide) (he : starEach (e :: es) X.env = (false, eval e X.env) :: starEach es X.env := by rfl)
    (hpl : ((backTo pos (starEach (e :: es) X.env)).any (·.1) || (backToKw pos (keywordEach kws X.env)).any (·.1.isNone)) = false := by rfl) : OkE X Wx (.Call (.Name x p) (e :: es) kws pos) (fMakeK x F n m is sa sk) := by
  obtain ⟨t, pa, q⟩ := ha
  obtain ⟨t', pk, q'⟩ := hkw
  refine ⟨fun σ H Q => t σ H fun vs H1 => t' σ H1 fun zs H2 => vs.length = n ∧ zs.length = m ∧ ∃ xs, permV is (vs ++ zs) = some xs ∧ tMk X Wx C F σ xs H2 Q, ⟨fun pins s σ H Q I h => ?_⟩, ?_⟩
  · refine wpAny_Call_Name_kw (ld_glob I hg hm ?_ hdb)
    refine PySem.W.callWith_KW (h₀ := X.base) I.ok.mod.kin M.kp hall (thn (pa.run pos pins s σ H _ I h) fun us s1 ⟨vs, H1, I1, r, q⟩ => ?_) hpl he
    refine thn (pk.run pos pins s1 σ H1 _ I1 q) fun ws s2 ⟨zs, H2, I2, rz, hl1, hl2, xs, ex, q2⟩ => ⟨I2.kIn, ?_⟩
    rw [hks]
    obtain ⟨ys, ey, ry⟩ := perm_vals (r.append rz) ex
    exact run_mkK (us := us) (ws := ws) M Fm cx hgd hr hb (by rw [← r.length]; exact hl1) (by rw [← rz.length, hl2, hkl]) ey I2 ry q2
  · intro g σ H ρ Q S h
    refine q g σ H ρ _ S (PostG.at (Ext.refl _ _) h ?_)
    intro ws ρ1 g1 H1 vs _ x1 S1 r1 h1
    refine q' g1 σ H1 ρ1 _ S1 (PostG.at x1 h1 ?_)
    intro zs ρ2 g2 H2 us _ x2 S2 r2 h2
    have mv : ∀ {vs : List V} {ws : List W}, RepWs X g1 σ H H1 vs ws → RepWs X g2 σ H H2 vs ws := by
      intro vs ws t
      induction t with
      | nil => exact .nil
      | cons r f _ n ih => exact .cons (r.ext x2) f ih n
    have all := (mv r1).app (later_A _ _ _ _ _ _ _ _ x1 r2) fun i j v u w z k1 k2 k3 k4 hw hz e => by
      obtain ⟨rv, _⟩ := RepWs.get r1 k1 k2
      obtain ⟨_, fz⟩ := RepWs.get r2 k3 k4
      cases w with
      | fresh c =>
        obtain ⟨a, ea, _, _, q⟩ := rv
        obtain ⟨y, hy⟩ := q.some
        rw [fz hz a (by rw [← e, ea])] at hy
        cases hy
      | _ => cases hw
    by_cases hl : ws.length = n ∧ zs.length = m
    · rw [if_pos hl] at h2
      cases ep : permW is (ws ++ zs) with
      | none => rw [ep] at h2; exact h2.elim
      | some zs' =>
        rw [ep] at h2
        obtain ⟨xs, ex, rx⟩ := all.perm nd ep
        exact ⟨by rw [r1.length]; exact hl.1, by rw [r2.length]; exact hl.2, xs, ex, runMake_tMk hm (x1.trans x2) S2 rx h2⟩
    · rw [if_neg hl] at h2
      exact h2.elim
end
end Py

namespace Py
open PySem PySem.Spec PyProof.Rows L2
/-! ### what is represented is one thing -/
section
variable {K : PySem.W.Frag} {G : Hp}
theorem keyD_inj {k k' : Key} (h : keyD k = keyD k') : k = k' := by
  cases k <;> cases k' <;> first | (cases h; rfl) | cases h
mutual
theorem Rep.uniq : ∀ {v : V} {d d' : D}, Rep K G v d → Rep K G v d' → d = d'
  | _, _, _, .non, h => by cases h; rfl
  | _, _, _, .bl b, h => by cases h; rfl
  | _, _, _, .int i, h => by cases h; rfl
  | _, _, _, .str x, h => by cases h; rfl
  | _, _, _, .lst e r, h => by
    cases h with
    | lst e' r' => rw [e] at e'; cases e'; rw [RepAll.uniq r r']
    | tup e' r' => rw [e] at e'; cases e'
    | dic e' k r' => rw [e] at e'; cases e'
  | _, _, _, .tup e r, h => by
    cases h with
    | lst e' r' => rw [e] at e'; cases e'
    | tup e' r' => rw [e] at e'; cases e'; rw [RepAll.uniq r r']
    | dic e' k r' => rw [e] at e'; cases e'
  | _, _, _, .dic e k r, h => by
    cases h with
    | lst e' r' => rw [e] at e'; cases e'
    | tup e' r' => rw [e] at e'; cases e'
    | dic e' k' r' =>
      rw [e] at e'
      cases e'
      have h1 := k.trans k'.symm
      have h2 := RepAll.uniq r r'
      refine congrArg PyData.dict ?_
      rename_i kvs kvs'
      clear r r' k k' e
      induction kvs generalizing kvs' with
      | nil => cases kvs' with
        | nil => rfl
        | cons _ _ => cases h1
      | cons p l ih => cases kvs' with
        | nil => cases h1
        | cons q m =>
          simp only [List.map_cons, List.cons.injEq] at h1 h2
          rw [ih h1.2 h2.2]
          exact congrArg (· :: m) (Prod.ext h1.1 h2.1)
theorem RepAll.uniq : ∀ {vs : List V} {ds ds' : List D}, RepAll K G vs ds → RepAll K G vs ds' → ds = ds'
  | _, _, _, .nil, h => by cases h; rfl
  | _, _, _, .cons a b, h => by
    cases h with
    | cons a' b' => rw [Rep.uniq a a', RepAll.uniq b b']
end
end
section
variable {X : Cx} {Wx : WX} {g : Gh} {σ : L2.St} {H : Hp} {ρ : Env'}
/-- an empty dict becomes the dict that the object at a keeps -/
theorem SR.tagOld {g0 : Gh} {H0 : Hp} {p a : Addr} (x : Ext g0 H0 g H) (S : SR X g σ H ρ) (hp : H p = some (.dK [])) (h0 : H0 p = none) (gp : g.G p = none) (op : ¬ g.O p) :
    Ext g0 H0 ⟨upd g.G p (tagO a), g.O, g.B, g.E⟩ H ∧ SR X ⟨upd g.G p (tagO a), g.O, g.B, g.E⟩ σ H ρ := by
  have up : Same g.G (upd g.G p (tagO a)) := fun b y h => by rw [upd_ne (ne_of_none h gp)]; exact h
  have sb : Sb X (upd g.G p (tagO a)) H := by
    refine ⟨fun b y h n => ?_, fun b t h => ?_⟩
    · by_cases e : b = p
      · subst e
        rw [upd_same] at h
        cases h
        cases n
      · rw [upd_ne e] at h
        exact S.sub.1 b y h n
    · by_cases e : b = p
      · subst e
        rw [upd_same] at h
        have h := Option.some.inj h
        unfold tagO at h
        cases h
        exact ⟨a, [], rfl, hp, .inl rfl⟩
      · rw [upd_ne e] at h
        obtain ⟨a', ks, e1, e2, e3⟩ := S.sub.2 b t h
        refine ⟨a', ks, e1, e2, e3.imp id ?_⟩
        rintro ⟨C, dx, vfs, c, fs, s, v, d, h1, h2, h3, h4, h5, h6⟩
        exact ⟨C, dx, vfs, c, fs, s, v, d, up _ _ h1, h2, Paired.mono h3 fun _ _ q => q.mono up, h4, h5.mono up, h6⟩
  refine ⟨⟨x.up.trans up, fun b y h n ob => ?_, x.al, x.bb, x.be⟩, ⟨sb, S.len, fun i s h => ?_, S.dis, S.ot, S.ea⟩⟩
  · obtain ⟨h1, h2, h3⟩ := x.fr b y h n ob
    exact ⟨h1, by show upd g.G p (tagO a) b = none; rw [upd_ne (ne_of_none h h0)]; exact h2, h3⟩
  · obtain ⟨v, h1, h2⟩ := S.slot i s h
    refine ⟨v, h1, ?_⟩
    have own : ∀ {b : Addr} {c : Cell}, g.G b = none → g.O b → CellR X g.G H b c → upd g.G p (tagO a) b = none ∧ CellR X (upd g.G p (tagO a)) H b c := fun {b c} n ob q =>
      ⟨by rw [upd_ne (show b ≠ p from fun e => op (by rw [← e]; exact ob))]; exact n, q.mono up fun _ h => h⟩
    cases s with
    | val w => exact RepP.mono up h2
    | own c =>
      obtain ⟨b, e, n, q1, q2, q3⟩ := h2
      obtain ⟨n', q'⟩ := own n q1 q2
      exact ⟨b, e, n', q1, q', q3⟩
    | ref c =>
      obtain ⟨b, e, n, q1, q2, q3⟩ := h2
      obtain ⟨n', q'⟩ := own n q1 q2
      exact ⟨b, e, n', q1, q', q3⟩
theorem PostS.at {α β : Type} {rel : Hp → Gh → Hp → β → α → Prop} {g1 : Gh} {H1 : Hp} {o : Option (R α)} {f : α → Env' → Option O} {E : Ends} {Q1 : β → Hp → Prop} (e : Ext g H g1 H1) (h : PostS X Wx g H (toS o f) E)
    (k : ∀ a ρ2 g2 H2 v, o = some (.ok a ρ2) → Ext g1 H1 g2 H2 → SR X g2 σ H2 ρ2 → rel H1 g2 H2 v a → PostS X Wx g H (f a ρ2) E → Q1 v H2) : PostG X Wx rel g1 σ H1 o Q1 := by
  cases o with
  | none => exact h
  | some r =>
    cases r with
    | ok a ρ' => exact fun g' H' v e' s r => k a ρ' g' H' v rfl e' s r h
    | ex c d ρ' => exact fun g' H' cv da e2 s r => h g' σ H' cv da (e.trans e2) s r
/-- o.f = {}, what o keeps for itself -/
def setKS (c f : Str) (so : ES) : SS := fun ρ => toS (so ρ) fun w ρ => match w with
  | .own i => (match cellAt ρ i with
    | some (.ins c' fs) => if c' = c ∧ fs.length < 1000 then some (.nx (setCell ρ i (.ins c (putD f none fs)))) else none
    | _ => none)
  | _ => none
theorem okSetK {c f : Str} {o : Expr} {so : ES} {p2 pos pos' : Pos} (hc : ClsF X c f) (ho : OkE X Wx o so) (hs : swapsWith (.Dict [] [] p2) (some (.Attribute o f pos')) pos.line X.env = pure false := by rfl) : OkS X Wx (.Assign [.Attribute o f pos'] (.Dict [] [] p2) pos) (setKS c f so) := by
  obtain ⟨t, p, q⟩ := ho
  refine ⟨_, ps_fld p pe_dnewK hs, fun g σ H ρ E S h => ?_⟩
  intro d hd
  obtain ⟨x1, S1⟩ := S.lay (o := .dK []) hd
  have gd : g.G d = none := S.sub.free hd
  have od : ¬ g.O d := fun z => S.ot d z hd
  refine q g σ _ ρ _ S1 (PostS.at x1 h ?_)
  intro w ρ2 g2 H2 x _ e2 S2 r2 h2
  obtain ⟨k1, k2, k3⟩ := e2.fr d _ upd_same gd od
  split at h2
  · rename_i i _
    split at h2
    · rename_i c' fs ec
      split at h2
      · rename_i hz
        obtain ⟨e, hz⟩ := hz
        subst e
        obtain ⟨a, ha, _, _, C, dx, vfs, hm, hg, hf⟩ := S2.cell ec
        have r : σ[i]? = some (some x) := r2.1
        rw [ha] at r
        cases r
        obtain ⟨x4, S4⟩ := SR.tagOld (a := a) (x1.trans e2) S2 k1 hd k2 k3
        have up : Same g2.G (upd g2.G d (tagO a)) := fun b y hb => by rw [upd_ne (ne_of_none hb k2)]; exact hb
        have hf' := Paired.mono hf fun _ _ q => q.mono up
        obtain ⟨x3, S3⟩ := S4.mut (o := .ins C dx (putF f (.ref d) vfs)) (c' := .ins c' (putD f none fs)) ec ha ⟨C, dx, _, hm, upd_same, fld_put (fun d' e => by cases e) (fun _ => ⟨d, rfl, upd_same⟩) hf'⟩
        exact ⟨a, C, dx, vfs, rfl, hg, hc.cls C hm, hc.no C hm, by rw [paired_len hf]; exact hz, h2 _ σ _ (x4.trans x3) S3⟩
      · exact h2.elim
    · exact h2.elim
  · exact h2.elim
theorem fld_kept {G : Hp} {ow : Addr} {f : Str} : ∀ {vfs : List (Str × V)} {fs : List (Str × Option D)}, Paired (FldR X G ow) vfs fs → fs.lookup f = some none → ∃ k, vfs.lookup f = some (.ref k) ∧ G k = some (tagO ow)
  | _, _, .nil, h => by cases h
  | (a, v) :: vfs, (b, o) :: fs, .cons r t, h => by
    obtain ⟨e, _, r⟩ := r
    have e : a = b := e
    subst e
    by_cases z : (f == a) = true
    · simp only [List.lookup, z] at h ⊢
      cases h
      obtain ⟨k, hk, hG⟩ := r rfl
      have hk : v = .ref k := hk
      exact ⟨k, by rw [hk], hG⟩
    · have z : (f == a) = false := by simpa using z
      simp only [List.lookup, z] at h ⊢
      exact fld_kept t h
theorem fld_same {G : Hp} {ow : Addr} {f : Str} {d d' : D} {vfs : List (Str × V)} {fs fs' : List (Str × Option D)} (h : Paired (FldR X G ow) vfs fs) (h' : Paired (FldR X G ow) vfs fs') (e : fs.lookup f = some (some d)) (e' : fs'.lookup f = some (some d')) : d = d' := by
  obtain ⟨v, hv, r⟩ := fld_get h e
  obtain ⟨v', hv', r'⟩ := fld_get h' e'
  rw [hv] at hv'
  cases hv'
  exact Rep.uniq r r'
/-- the kept dict is written -/
theorem SR.putKept {g0 : Gh} {H0 H' : Hp} {k a : Addr} (x : Ext g0 H0 g H) (S : SR X g σ H ρ) (h0 : g0.G k ≠ none) (hk : g.G k = some (tagO a)) (hd : ∀ b, b ≠ k → H' b = H b) (hn : H' k ≠ none) (sb : Sb X g.G H') : Ext g0 H0 g H' ∧ SR X g σ H' ρ := by
  have al : ∀ b, H b ≠ none → H' b ≠ none := fun b hb => by
    by_cases e : b = k
    · rw [e]; exact hn
    · rw [hd b e]; exact hb
  have own : ∀ {b : Addr} {c : Cell}, g.G b = none → CellR X g.G H b c → CellR X g.G H' b c := fun {b c} n q => q.mono (Same.refl _) fun y hy => by
    rw [hd b fun e => by rw [e, hk] at n; cases n]
    exact hy
  refine ⟨⟨x.up, fun b y hb nb ob => ?_, fun b hb => al b (x.al b hb), x.bb, x.be⟩, ⟨sb, S.len, fun i s hs => ?_, S.dis, fun b ob => al b (S.ot b ob), fun b eb => al b (S.ea b eb)⟩⟩
  · obtain ⟨h1, h2, h3⟩ := x.fr b y hb nb ob
    exact ⟨by rw [hd b fun e => h0 (by rw [← e]; exact nb)]; exact h1, h2, h3⟩
  · obtain ⟨v, h1, h2⟩ := S.slot i s hs
    refine ⟨v, h1, ?_⟩
    cases s with
    | val w => exact h2
    | own c =>
      obtain ⟨b, e, n, q1, q2, q3⟩ := h2
      exact ⟨b, e, n, q1, own n q2, q3⟩
    | ref c =>
      obtain ⟨b, e, n, q1, q2, q3⟩ := h2
      exact ⟨b, e, n, q1, own n q2, q3⟩
end
/-! ### the lots that a store keeps -/
def natsOf : List D → Option (List Nat)
  | [] => some []
  | .int i :: r => if 0 ≤ i then (match natsOf r with
    | some ks => some (i.toNat :: ks)
    | none => none) else none
  | _ :: _ => none
theorem natsOf_eq : ∀ {ds : List D} {ks : List Nat}, natsOf ds = some ks → ds = natD ks
  | [], _, h => by cases h; rfl
  | .int i :: r, ks, h => by
    unfold natsOf at h
    split at h
    · rename_i hi
      cases e : natsOf r with
      | none => rw [e] at h; cases h
      | some l =>
        rw [e] at h
        cases h
        rw [natsOf_eq e]
        unfold natD
        rw [List.map_cons]
        have : ((i.toNat : Nat) : Int) = i := by omega
        rw [this]
    · cases h
  | .none :: _, _, h => by cases h
  | .bool _ :: _, _, h => by cases h
  | .str _ :: _, _, h => by cases h
  | .list _ :: _, _, h => by cases h
  | .tuple _ :: _, _, h => by cases h
  | .dict _ :: _, _, h => by cases h
theorem natsOf_nat : ∀ ks : List Nat, natsOf (natD ks) = some ks
  | [] => rfl
  | k :: ks => by
    unfold natD
    rw [List.map_cons]
    unfold natsOf
    rw [if_pos (by omega)]
    have := natsOf_nat ks
    unfold natD at this
    rw [this]
    simp
theorem natD_inj {a b : List Nat} (h : natD a = natD b) : a = b := by
  have := natsOf_nat a
  rw [h, natsOf_nat] at this
  exact (Option.some.inj this).symm
/-- what a store with these fields keeps as its flat lots -/
def keptOf (c : Str) (fs : List (Str × Option D)) : Option (List D) := if c = "Store" then (match fs.lookup ("own_kept" : Str), fs.lookup ("own_deliveries" : Str), fs.lookup ("own_sales" : Str) with
  | some none, some (some (.tuple ds)), some (some (.tuple es)) => (match natsOf ds, natsOf es with
    | some a, some b => if (flatsOf a b).length ≤ lim then some (natD (flatsOf a b)) else none
    | _, _ => none)
  | _, _, _ => none) else none
theorem keptOf_is {c : Str} {fs : List (Str × Option D)} {L : List D} (h : keptOf c fs = some L) : c = "Store" ∧ fs.lookup ("own_kept" : Str) = some none ∧ L.length ≤ lim ∧ Kept c fs "flats" (.list L) := by
  unfold keptOf at h
  split at h
  · rename_i hc
    split at h
    · rename_i ds es e1 e2 e3
      split at h
      · rename_i a b ea eb
        split at h
        · rename_i hl
          cases h
          refine ⟨hc, e1, by simpa [natD] using hl, hc, rfl, a, b, ?_, ?_, rfl⟩
          · rw [e2, natsOf_eq ea]
          · rw [e3, natsOf_eq eb]
        · cases h
      · cases h
    · cases h
  · cases h
open Classical in
noncomputable def keepS (sc : ES) : SS := fun ρ => match (ρ[0]? : Option (Option Py.Slot)) with
  | some (some (Py.Slot.val (W.obj c fs))) => (match keptOf c fs with
    | some L => (match sc ρ with
      | some (.ok (.fresh (.lst L')) ρ') => if L' = L ∧ ρ' = ρ then some (.ret (.fresh (.lst L)) ρ) else none
      | _ => none)
    | none => none)
  | _ => none
end Py

namespace Py
open PySem PySem.Spec PyProof.Rows L2
section
variable {X : Cx} {Wx : WX}
theorem val_one {s : Str} {v : V} : valV [((.inr s : Key), v)] (.inr s) = some v := by simp [valV]
theorem put_nil {s : Str} {v : V} : putK ([] : List (Key × V)) (.inr s) v = [(.inr s, v)] := by simp [putK]
theorem put_one {s : Str} {u v : V} : putK [((.inr s : Key), u)] (.inr s) v = [(.inr s, v)] := by simp [putK]
/-- the store and the dict that it keeps -/
theorem kept_at {g : Gh} {σ : L2.St} {H : Hp} {ρ : Env'} {fs : List (Str × Option D)} (S : SR X g σ H ρ) (e : ρ[0]? = some (some (.val (.obj "Store" fs)))) (hl : fs.lookup ("own_kept" : Str) = some none) :
    ∃ a C dx vfs k, σ[0]? = some (some (.ref a)) ∧ g.G a = some (.ins C dx vfs) ∧ X.mg "Store" = some (.ref C) ∧ Paired (FldR X g.G a) vfs fs ∧ vfs.lookup ("own_kept" : Str) = some (.ref k) ∧ g.G k = some (tagO a) := by
  obtain ⟨v, h1, a, C, dx, vfs, rfl, hm, hg, hf⟩ := S.slot 0 _ e
  obtain ⟨k, hk, hG⟩ := fld_kept hf hl
  exact ⟨a, C, dx, vfs, k, h1, hg, hm, hf, hk, hG⟩
theorem okKeep {n : Str} {q1 q2 q3 q4 q5 q6 q7 p1 p2 p3 p4 p5 p6 p7 p8 p9 p10 : Pos} {j1 j2 j3 : Nat} {call : Expr} {sc : ES} (hu : X.A.units + 1 < cLine) (hK : ClsF X "Store" "own_kept") (hgl : Gl X "list") (hml : X.mg "list" = none) (hc : OkE X Wx call sc) (hN : X.N[0]? = some n := by rfl) (hv : Vis X.env.scope n := by first | exact Or.inl rfl | exact Or.inr (Or.inl rfl) | exact Or.inr (Or.inr rfl))
    (hd : (n == ("__debug__" : Str)) = false := by decide) (hcd : (n == ("__classdict__" : Str)) = false := by decide)
    (b1 : attributeBase (.Name n q1) "own_kept" X.env (eval (.Name n q1) X.env) = eval (.Name n q1) X.env := by rfl)
    (b2 : attributeBase (.Name n q3) "own_kept" X.env (eval (.Name n q3) X.env) = eval (.Name n q3) X.env := by rfl)
    (b3 : attributeBase (.Name n q6) "own_kept" X.env (eval (.Name n q6) X.env) = eval (.Name n q6) X.env := by rfl)
    (hm : behindInMarks .NotIn (.Attribute (.Name n q1) "own_kept" q2) = false := by with_unfolding_all rfl)
    (hs : swapsWith call (some (.Subscript (.Attribute (.Name n q3) "own_kept" q4) (.Constant (.str "flats") j2 p3) p4)) p5.line X.env = pure false := by rfl)
    (hsl : NoSl (.Constant (.str "flats") j3 p7) := by intro _ _; rfl)
    (he : starEach [.Subscript (.Attribute (.Name n q6) "own_kept" q7) (.Constant (.str "flats") j3 p7) p8] X.env = (false, eval (.Subscript (.Attribute (.Name n q6) "own_kept" q7) (.Constant (.str "flats") j3 p7) p8) X.env) :: starEach [] X.env := by rfl)
    (hpl : (backTo p9 (starEach [] X.env)).any (·.1) = false := by rfl) :
    OkSs X Wx [.If (.Compare (.Constant (.str "flats") j1 p1) [.NotIn] [.Attribute (.Name n q1) "own_kept" q2] p2) [.Assign [.Subscript (.Attribute (.Name n q3) "own_kept" q4) (.Constant (.str "flats") j2 p3) p4] call p5] [] p6,
      .Return (some (.Call (.Name "list" q5) [.Subscript (.Attribute (.Name n q6) "own_kept" q7) (.Constant (.str "flats") j3 p7) p8] [] p9)) p10] (keepS sc) := by
  obtain ⟨tv, pv, qv⟩ := hc
  obtain ⟨r, hr1, hr2⟩ := (sc_list : SemCl X Wx (.type "list") (cL listF))
  have pn : ∀ q, PE X (.Name n q) (tVar 0) := fun q => pe_var hN hv hd hcd
  refine ⟨_, pss_cons (ps_if (pt_cmp (pc_dnotin hu pe_str (pe_fld (pn q1) b1)) hm) (pss_cons (ps_dput hu (pe_fld (pn q3) b2) pe_str pv hs) pss_nil) pss_nil)
    (pss_cons (ps_ret (pe_callTy hr1 hgl hml boot_list' (pa_cons (pe_dget hu (pe_fld (pn q6) b3) pe_str hsl) pa_nil he) (he := he) (hpl := hpl))) pss_nil), fun g σ H ρ E S h => ?_⟩
  unfold keepS at h
  split at h
  · rename_i c fs e0
    split at h
    · rename_i L eL
      split at h
      · rename_i L' ρ' es
        split at h
        · rename_i hh
          obtain ⟨eL', eρ⟩ := hh
          subst eL' eρ
          obtain ⟨hc, hl, hlen, hkept⟩ := keptOf_is eL
          subst hc
          have fin : ∀ {g' : Gh} {H' : Hp} {v : V} {k a C dx : Addr} {vfs : List (Str × V)}, Ext g H g' H' → SR X g' σ H' ρ' → σ[0]? = some (some (.ref a)) → g.G a = some (.ins C dx vfs) → X.mg "Store" = some (.ref C) → vfs.lookup ("own_kept" : Str) = some (.ref k) → H' k = some (.dK [(.inr "flats", v)]) → Rep X.K g'.G v (.list L') →
              tRet (tCB r (tCons (tDGet (tFld X.K (tVar 0) "own_kept") (tC (.str "flats"))) tNil)) E σ H' := by
            intro g' H' v k a C dx vfs x S' hσ ga hm lk hk rv
            have dg : DGet H' k (.str "flats") (some v) := by
              have := DGet.k (k := (.inr ("flats" : Str) : Key)) hk
              rw [val_one] at this
              exact this
            refine ⟨.ref a, hσ, a, C, dx, vfs, .ref k, rfl, S'.sub.1 _ _ (x.up _ _ ga) rfl, hK.cls C hm, hK.no C hm, lk, k, v, rfl, dg, ?_⟩
            refine hr2 g' σ H' H' ρ' [v] [.dat (.list L')] E.rt S' (.cons rv FreshIn.dat .nil fun z => by cases z) ?_
            have ec : cL listF [.dat (.list L')] ρ' = some (.ok (.fresh (.lst L')) ρ') := by simp [cL, listF, hlen]
            rw [ec]
            intro g2 H2 u e2 S2 r2
            refine h g2 σ H2 u (x.trans e2) S2 r2.1 fun hf b e => ?_
            have hb := r2.2 hf b e
            cases ee : g.E b with
            | none => rfl
            | some y => exact absurd hb (S'.ea b (by rw [x.be, ee]; exact fun z => by cases z))
          obtain ⟨a, C, dx, vfs, k, hσ, ga, hmC, hf, lk, hG⟩ := kept_at S e0 hl
          have hHa := S.sub.1 _ _ ga rfl
          obtain ⟨a', ks, ea, hk, hks⟩ := S.sub.2 k _ (show g.G k = some (.dT [([], .ref a)]) from hG)
          cases ea
          have kn : g.G k ≠ none := by rw [hG]; exact fun z => by cases z
          obtain ⟨_, _, ds, esl, ed1, ed2, eL2⟩ := hkept
          refine ⟨.ref a, hσ, a, C, dx, vfs, .ref k, rfl, hHa, hK.cls C hmC, hK.no C hmC, lk, k, _, rfl, DGet.k (k := (.inr ("flats" : Str) : Key)) hk, _, rfl, ?_⟩
          rcases hks with rfl | ⟨C1, dx1, vfs1, c1, fs1, s1, v1, d1, h1, h2, h3, h4, h5, hc1, hs1, ds1, es1, k1, k2, k3⟩
          · refine Eq.mpr (if_pos rfl) ?_
            refine qv g σ H ρ' _ S ?_
            rw [es]
            intro g1 H1 v e1 S1 r1
            obtain ⟨l, rfl, n1, o1, vs, hl1, rl⟩ := r1.1
            obtain ⟨x2, S2⟩ := SR.freezeOld e1 S1 hl1 (r1.2 rfl l rfl) n1 o1
            have up1 : Same g1.G (upd g1.G l (.lst vs)) := fun b y hb => by rw [upd_ne (ne_of_none hb n1)]; exact hb
            have rl2 : Rep X.K (upd g1.G l (.lst vs)) (.ref l) (.list L') := .lst upd_same (rl.mono up1)
            have ga2 : upd g1.G l (.lst vs) a = some (.ins C dx vfs) := x2.up _ _ ga
            have gk2 : upd g1.G l (.lst vs) k = some (tagO a) := x2.up _ _ hG
            have hf2 := Paired.mono hf fun _ _ q => q.mono x2.up
            obtain ⟨a2, ks2, ea2, hk2, hks2⟩ := S2.sub.2 k _ (show upd g1.G l (.lst vs) k = some (.dT [([], .ref a)]) from gk2)
            cases ea2
            have hput : putK ks2 (.inr ("flats" : Str)) (.ref l) = [(.inr "flats", .ref l)] ∧ ks2.length < sizeLine := by
              rcases hks2 with rfl | ⟨_, _, _, _, _, s2, _, _, _, _, _, e4, _, _, e5, _⟩
              · exact ⟨put_nil, by rw [sizeLine_eq]; decide⟩
              · subst e4 e5
                exact ⟨put_one, by rw [sizeLine_eq]; simp⟩
            have sb : Sb X (upd g1.G l (.lst vs)) (upd H1 k (.dK [(.inr "flats", .ref l)])) := by
              refine ⟨fun b y hb nt => ?_, fun b t hb => ?_⟩
              · have ne : b ≠ k := fun e => by
                  rw [e, gk2] at hb
                  cases hb
                  cases nt
                rw [upd_ne ne]
                exact S2.sub.1 b y hb nt
              · by_cases e : b = k
                · subst e
                  rw [gk2] at hb
                  have hb := Option.some.inj hb
                  unfold tagO at hb
                  cases hb
                  exact ⟨a, _, rfl, upd_same, .inr ⟨C, dx, vfs, "Store", fs, "flats", .ref l, .list L', ga2, hmC, hf2, rfl, rl2, rfl, rfl, ds, esl, ed1, ed2, eL2⟩⟩
                · obtain ⟨a3, ks3, q1, q2, q3⟩ := S2.sub.2 b t hb
                  exact ⟨a3, ks3, q1, by rw [upd_ne e]; exact q2, q3⟩
            obtain ⟨x4, S4⟩ := SR.putKept (H' := upd H1 k (.dK [(.inr "flats", .ref l)])) x2 S2 kn gk2 (fun b hb => upd_ne hb) (by rw [upd_same]; exact fun z => by cases z) sb
            have dp : DPut H1 k (.str "flats") (.ref l) (upd H1 k (.dK [(.inr "flats", .ref l)])) := by
              have := DPut.k (k := (.inr ("flats" : Str) : Key)) (v := .ref l) hk2 hput.2
              rw [hput.1] at this
              exact this
            refine ⟨.ref a, hσ, a, C, dx, vfs, .ref k, rfl, S2.sub.1 _ _ ga2 rfl, hK.cls C hmC, hK.no C hmC, lk, k, _, rfl, dp, ?_⟩
            exact fin x4 S4 hσ ga hmC lk upd_same rl2
          · subst h4 hs1
            rw [ga] at h1
            cases h1
            have t1 := fld_same hf h3 ed1 k1
            have t2 := fld_same hf h3 ed2 k2
            have t1 := natD_inj (by injection t1 : natD ds = natD ds1)
            have t2 := natD_inj (by injection t2 : natD esl = natD es1)
            subst t1 t2
            refine Eq.mpr (if_neg (by rw [val_one]; simp)) ?_
            refine fin (Ext.refl _ _) S hσ ga hmC lk hk ?_
            rw [eL2, ← k3]
            exact h5
        · exact h.elim
      · exact h.elim
    · exact h.elim
  · exact h.elim
end
@[simp] theorem setKS_at (c f : Str) (so : ES) (ρ : Env') : setKS c f so ρ = toS (so ρ) fun w ρ => match w with
  | .own i => (match cellAt ρ i with
    | some (.ins c' fs) => if c' = c ∧ fs.length < 1000 then some (.nx (setCell ρ i (.ins c (putD f none fs)))) else none
    | _ => none)
  | _ => none := rfl
theorem keep_at {sc : ES} {c : Str} {fs : List (Str × Option D)} {L : List D} {ρ : Env'} (h0 : ρ[0]? = some (some (.val (.obj c fs)))) (hk : keptOf c fs = some L) (hs : sc ρ = some (.ok (.fresh (.lst L)) ρ)) : keepS sc ρ = some (.ret (.fresh (.lst L)) ρ) := by
  unfold keepS
  rw [h0]
  dsimp only
  rw [hk]
  dsimp only
  rw [hs]
  dsimp only
  rw [if_pos ⟨rfl, rfl⟩]
end Py

namespace Py
open PySem PySem.Spec PyProof.Rows L2
/-! ### own dicts whose keys are ints -/
def kdAt (z : W) (ρ : Env') : Option (List (Key × D)) := match z with
  | .own i => (match cellAt ρ i with
    | some (.dct kvs) => some kvs
    | _ => none)
  | .fresh (.dct kvs) => some kvs
  | _ => none
def hasK (kvs : List (Key × D)) (k : Key) : Bool := kvs.any fun p => decide (p.1 = k)
def gKIn (f : Bool → Bool) : W → W → Env' → Option (R W) := fun w z ρ => match w with
  | .dat (.int i) => (match kdAt z ρ with
    | some kvs => some (.ok (.dat (.bool (f (hasK kvs (.inl i))))) ρ)
    | none => none)
  | _ => none
def kxG (so si : ES) : TgF := fun d ρ => toS (so ρ) fun w ρ => toS (si ρ) fun k ρ => match w, k with
  | .own i, .dat (.int j) => (match cellAt ρ i with
    | some (.dct kvs) => if hasK kvs (.inl j) = true ∨ 1000000 ≤ kvs.length then none else some (.nx (setCell ρ i (.dct (kvs ++ [(.inl j, d)]))))
    | _ => none)
  | _, _ => none
def kListF : List W → Env' → Option (R W) := fun ws ρ => match ws with
  | [z] => (match kdAt z ρ with
    | some kvs => some (.ok (.fresh (.lst (kvs.map fun p => keyD p.1))) ρ)
    | none => none)
  | _ => none
section
variable {X : Cx} {Wx : WX}
theorem val_has {G : Hp} {k : Key} : ∀ {ks : List (Key × V)} {kvs : List (Key × D)}, Paired (KeyR X G) ks kvs → (valV ks k).isSome = hasK kvs k
  | _, _, .nil => rfl
  | (a, v) :: ks, (b, d) :: kvs, .cons r t => by
    obtain ⟨e, _⟩ := r
    have e : a = b := e
    subst e
    have ih := val_has (k := k) t
    unfold valV hasK at ih ⊢
    by_cases z : a = k
    · simp [z]
    · simp only [List.find?_cons, List.any_cons, z, decide_false, Bool.false_or]
      exact ih
theorem kd_at {g : Gh} {σ : L2.St} {H : Hp} {ρ : Env'} {y : V} {z : W} {kvs : List (Key × D)} (S : SR X g σ H ρ) (r : RepW X g σ H y z) (h : kdAt z ρ = some kvs) : ∃ a ks, y = .ref a ∧ H a = some (.dK ks) ∧ Paired (KeyR X g.G) ks kvs := by
  cases z with
  | own i =>
    unfold kdAt at h
    dsimp only at h
    split at h
    · rename_i kvs' ec
      cases h
      obtain ⟨a, ha, _, _, ks, h1, h2⟩ := S.cell ec
      have r : σ[i]? = some (some y) := r
      rw [ha] at r
      cases r
      exact ⟨a, ks, rfl, h1, h2⟩
    · cases h
  | fresh c =>
    cases c with
    | dct kvs' =>
      cases h
      obtain ⟨a, rfl, _, _, ks, h1, h2⟩ := r
      exact ⟨a, ks, rfl, h1, h2⟩
    | _ => cases h
  | _ => cases h
theorem sem_kIn (f : Bool → Bool) : Sem2 X Wx (rDIn f) (gKIn f) := by
  intro g σ H ρ x y w z Q S rx ry h
  unfold gKIn at h
  cases w with
  | dat d =>
    cases d with
    | int i =>
      dsimp only at h
      cases ez : kdAt z ρ with
      | none => rw [ez] at h; exact h.elim
      | some kvs =>
        rw [ez] at h
        obtain ⟨a, ks, rfl, ha, hp⟩ := kd_at S ry ez
        cases (show Rep X.K g.G x (.int i) from rx)
        have dg := DGet.k (k := (.inl i : Key)) ha
        refine ⟨a, _, rfl, dg, ?_⟩
        rw [val_has hp]
        exact h g H _ (Ext.refl _ _) S ⟨.bl _, FreshIn.dat⟩
    | _ => exact h.elim
  | _ => exact h.elim
theorem so_kIn (hu : X.A.units + 65 < cLine) : SemOp X Wx (compareOp .In) (gKIn id) := ⟨rDIn id, by
  intro pins s σ H x y v u Q I rx ry ⟨a, o, ey, g, q⟩
  subst ey
  cases (show u = Value.ref a from ry)
  exact d_in (by omega) I g rx fun s' I' => ⟨.bl o.isSome, _, I', rfl, q⟩, sem_kIn id⟩
theorem so_kNotIn (hu : X.A.units + 65 < cLine) : SemOp X Wx (compareOp .NotIn) (gKIn not) := ⟨rDIn not, by
  intro pins s σ H x y v u Q I rx ry ⟨a, o, ey, g, q⟩
  subst ey
  cases (show u = Value.ref a from ry)
  exact d_notIn (by omega) I g rx fun s' I' => ⟨.bl (!o.isSome), _, I', rfl, q⟩, sem_kIn not⟩
theorem put_new {G : Hp} {k : Key} {v : V} {d : D} (rv : Rep X.K G v d) {ks : List (Key × V)} {kvs : List (Key × D)} (h : Paired (KeyR X G) ks kvs) (hn : hasK kvs k = false) : putK ks k v = ks ++ [(k, v)] ∧ Paired (KeyR X G) (ks ++ [(k, v)]) (kvs ++ [(k, d)]) := by
  have e : valV ks k = none := by
    have := val_has (k := k) h
    rw [hn] at this
    simpa using this
  refine ⟨L2.putK_new _ e, ?_⟩
  clear hn e
  induction h with
  | nil => exact .cons ⟨rfl, rv⟩ .nil
  | cons r _ ih => exact .cons r ih
theorem okG_kx {o i : Expr} {so si : ES} {pos : Pos} (hu : X.A.units + 65 < cLine) (ho : OkE X Wx o so) (hi : OkE X Wx i si)
    (ha : ∀ v, assign (.Subscript o i pos) X.env v = (do
      let ov ← holding [v] (eval o X.env)
      let iv ← holding [v, ov] (eval i X.env)
      standAt pos
      holding [v, ov, iv] (setItem ov iv v)
      release [v, ov, iv] []) := by intro _; rfl) : OkG X Wx (.Subscript o i pos) (kxG so si) := by
  obtain ⟨t, p, q⟩ := ho
  obtain ⟨t', p', q'⟩ := hi
  refine ⟨_, pg_sub p p' (set_dT hu) ha, fun g σ H ρ v d E S r h => q g σ H ρ _ S (PostS.bind h ?_)⟩
  intro w ρ1 g1 H1 x _ e1 S1 r1 h1
  refine q' g1 σ H1 ρ1 _ S1 (PostS.bind (PostS.shift e1 h1) ?_)
  intro k ρ2 g2 H2 y _ e2 S2 r2 h2
  split at h2
  · rename_i j m _ _
    split at h2
    · rename_i kvs ec
      split at h2
      · exact h2.elim
      · rename_i hn
        rw [not_or] at hn
        obtain ⟨a, ha, n, oa, ks, hk, hp⟩ := S2.cell ec
        have rx : σ[j]? = some (some x) := r1.1.ext e2
        rw [ha] at rx
        cases rx
        cases (show Rep X.K g2.G y (.int m) from r2.1)
        have rv : Rep X.K g2.G v d := (r.mono e1.up).mono e2.up
        obtain ⟨p1, p2⟩ := put_new rv hp (by simpa using hn.1)
        obtain ⟨x3, S3⟩ := S2.mut (o := .dK (ks ++ [(.inl m, v)])) (c' := .dct (kvs ++ [(.inl m, d)])) ec ha ⟨_, upd_same, p2⟩
        have dp : DPut H2 a (.int m) v (upd H2 a (.dK (ks ++ [(.inl m, v)]))) := by
          have := DPut.k (k := (.inl m : Key)) (v := v) hk (by rw [paired_len hp, sizeLine_eq]; omega)
          rw [p1] at this
          exact this
        exact ⟨a, _, rfl, dp, (PostS.shift e2 h2) _ σ _ x3 S3⟩
    · exact h2.elim
  · exact h2.elim
theorem sc_kList (hc : X.calm = true) : SemCl X Wx (.type "list") kListF := ⟨_, call_listD hc, by
  intro g σ H0 H ρ vs ws Q S rs p
  unfold kListF at p
  split at p
  · rename_i z
    cases ez : kdAt z ρ with
    | none => rw [ez] at p; exact p.elim
    | some kvs =>
      rw [ez] at p
      cases rs with
      | cons r _ t _ =>
        cases t
        obtain ⟨a, ks, rfl, ha, hp⟩ := kd_at S r ez
        refine ⟨a, ks, rfl, .of ha, fun l hl => PostE.newList S p ?_ hl⟩
        clear p ez r ha
        induction hp with
        | nil => exact .nil
        | cons q _ ih =>
          refine .cons ?_ ih
          rename_i x y _ _ _
          obtain ⟨e, _⟩ := q
          show Rep X.K g.G (kV x.1) (keyD y.1)
          rw [e]
          cases y.1 with
          | inl i => exact .int i
          | inr s => exact .str s
  · exact p.elim⟩
end
end Py

namespace K46
open PySem PySem.Spec PyProof.Rows L2 Py
def topS (i : Nat) : Stmt := PySem.Challenge.pw_fairshelves_k46_whole_never_more.main.body.getD i (.Pass ⟨0, 0, 0, 0⟩)
abbrev s__law_draw : Stmt := topS 54
theorem sc__law_draw : FnScope ["pot", "size", "digit"] ["pot", "size"] (defScope s__law_draw) := ⟨rfl, rfl, rfl, by decide +kernel, rfl, by decide +kernel, by decide +kernel⟩
abbrev s__law_kind : Stmt := topS 55
theorem sc__law_kind : FnScope ["pot", "shelves", "found", "turn", "shelf"] ["pot", "shelves"] (defScope s__law_kind) := ⟨rfl, rfl, rfl, by decide +kernel, rfl, by decide +kernel, by decide +kernel⟩
abbrev s__law_world : Stmt := topS 56
theorem sc__law_world : FnScope ["pot", "most", "shelves", "deliveries", "sales", "turn"] ["pot", "most"] (defScope s__law_world) := ⟨rfl, rfl, rfl, by decide +kernel, rfl, by decide +kernel, by decide +kernel⟩
abbrev s_is_integer : Stmt := topS 10
theorem sc_is_integer : FnScope ["value"] ["value"] (defScope s_is_integer) := ⟨rfl, rfl, rfl, by decide +kernel, rfl, by decide +kernel, by decide +kernel⟩
abbrev s_is_count : Stmt := topS 11
theorem sc_is_count : FnScope ["value"] ["value"] (defScope s_is_count) := ⟨rfl, rfl, rfl, by decide +kernel, rfl, by decide +kernel, by decide +kernel⟩
abbrev s_are_shelves : Stmt := topS 16
theorem sc_are_shelves : FnScope ["value"] ["value"] (defScope s_are_shelves) := ⟨rfl, rfl, rfl, by decide +kernel, rfl, by decide +kernel, by decide +kernel⟩
abbrev s_want_shelves : Stmt := topS 17
theorem sc_want_shelves : FnScope ["value"] ["value"] (defScope s_want_shelves) := ⟨rfl, rfl, rfl, by decide +kernel, rfl, by decide +kernel, by decide +kernel⟩
abbrev s_bits_of : Stmt := topS 20
theorem sc_bits_of : FnScope ["lot", "found", "shelf"] ["lot"] (defScope s_bits_of) := ⟨rfl, rfl, rfl, by decide +kernel, rfl, by decide +kernel, by decide +kernel⟩
abbrev s_spots_of : Stmt := topS 21
theorem sc_spots_of : FnScope ["bits", "shelf"] ["bits"] (defScope s_spots_of) := ⟨rfl, rfl, rfl, by decide +kernel, rfl, by decide +kernel, by decide +kernel⟩
abbrev s_told_lot : Stmt := topS 22
theorem sc_told_lot : FnScope ["bits"] ["bits"] (defScope s_told_lot) := ⟨rfl, rfl, rfl, by decide +kernel, rfl, by decide +kernel, by decide +kernel⟩
abbrev s_plain_kinds : Stmt := topS 27
theorem sc_plain_kinds : FnScope ["kinds", "lot", "bits"] ["kinds"] (defScope s_plain_kinds) := ⟨rfl, rfl, rfl, by decide +kernel, rfl, by decide +kernel, by decide +kernel⟩
abbrev s_is_list : Stmt := topS 12
theorem sc_is_list : FnScope ["value"] ["value"] (defScope s_is_list) := ⟨rfl, rfl, rfl, by decide +kernel, rfl, by decide +kernel, by decide +kernel⟩
abbrev s_is_lot_of : Stmt := topS 18
theorem sc_is_lot_of : FnScope ["shelves", "value", "shelf"] ["shelves", "value"] (defScope s_is_lot_of) := ⟨rfl, rfl, rfl, by decide +kernel, rfl, by decide +kernel, by decide +kernel⟩
abbrev s_is_kind : Stmt := topS 25
theorem sc_is_kind : FnScope ["shelves", "value"] ["shelves", "value"] (defScope s_is_kind) := ⟨rfl, rfl, rfl, by decide +kernel, rfl, by decide +kernel, by decide +kernel⟩
abbrev s_are_kinds : Stmt := topS 26
theorem sc_are_kinds : FnScope ["shelves", "value", "one"] ["shelves", "value"] (defScope s_are_kinds) := ⟨rfl, rfl, rfl, by decide +kernel, rfl, by decide +kernel, by decide +kernel⟩
abbrev s_Store_init : Stmt := inClass (topS 28) 0
theorem sc_Store_init : FnScope ["self", "shelves", "deliveries", "sales", "kind"] ["self", "shelves", "deliveries", "sales"] (defScope s_Store_init) := ⟨rfl, rfl, rfl, by decide +kernel, rfl, by decide +kernel, by decide +kernel⟩
abbrev s__law_store : Stmt := topS 58
theorem sc__law_store : FnScope ["world"] ["world"] (defScope s__law_store) := ⟨rfl, rfl, rfl, by decide +kernel, rfl, by decide +kernel, by decide +kernel⟩
abbrev s__law_steps : Stmt := topS 60
theorem sc__law_steps : FnScope ["plain", "at"] ["plain"] (defScope s__law_steps) := ⟨rfl, rfl, rfl, by decide +kernel, rfl, by decide +kernel, by decide +kernel⟩
abbrev s__law_led : Stmt := topS 61
theorem sc__law_led : FnScope ["plain", "lot", "step", "shelf"] ["plain", "lot", "step"] (defScope s__law_led) := ⟨rfl, rfl, rfl, by decide +kernel, rfl, by decide +kernel, by decide +kernel⟩
abbrev s__law_flats : Stmt := topS 62
theorem sc__law_flats : FnScope ["plain", "found", "spot", "steps", "step", "lot"] ["plain"] (defScope s__law_flats) := ⟨rfl, rfl, rfl, by decide +kernel, rfl, by decide +kernel, by decide +kernel⟩
abbrev s__law_order : Stmt := topS 64
theorem sc__law_order : FnScope ["pot", "many", "left", "found", "turn"] ["pot", "many"] (defScope s__law_order) := ⟨rfl, rfl, rfl, by decide +kernel, rfl, by decide +kernel, by decide +kernel⟩
abbrev s__law_lot : Stmt := topS 63
theorem sc__law_lot : FnScope ["pot", "many", "shelf"] ["pot", "many"] (defScope s__law_lot) := ⟨rfl, rfl, rfl, by decide +kernel, rfl, by decide +kernel, by decide +kernel⟩
abbrev s__law_told : Stmt := topS 57
theorem sc__law_told : FnScope ["kinds", "found", "kind", "one"] ["kinds"] (defScope s__law_told) := ⟨rfl, rfl, rfl, by decide +kernel, rfl, by decide +kernel, by decide +kernel⟩
abbrev s__law_plain : Stmt := topS 59
theorem sc__law_plain : FnScope ["world"] ["world"] (defScope s__law_plain) := ⟨rfl, rfl, rfl, by decide +kernel, rfl, by decide +kernel, by decide +kernel⟩
abbrev s_want_store : Stmt := topS 29
theorem sc_want_store : FnScope ["value"] ["value"] (defScope s_want_store) := ⟨rfl, rfl, rfl, by decide +kernel, rfl, by decide +kernel, by decide +kernel⟩
abbrev s_want_lot : Stmt := topS 19
theorem sc_want_lot : FnScope ["shelves", "value"] ["shelves", "value"] (defScope s_want_lot) := ⟨rfl, rfl, rfl, by decide +kernel, rfl, by decide +kernel, by decide +kernel⟩
abbrev s_want_lot_of : Stmt := topS 32
theorem sc_want_lot_of : FnScope ["store", "value"] ["store", "value"] (defScope s_want_lot_of) := ⟨rfl, rfl, rfl, by decide +kernel, rfl, by decide +kernel, by decide +kernel⟩
abbrev s_led_on : Stmt := topS 35
theorem sc_led_on : FnScope ["store", "bits", "kind"] ["store", "bits"] (defScope s_led_on) := ⟨rfl, rfl, rfl, by decide +kernel, rfl, by decide +kernel, by decide +kernel⟩
abbrev s_closed_from : Stmt := topS 36
theorem sc_closed_from : FnScope ["store", "some", "found", "waiting", "bits", "one"] ["store", "some"] (defScope s_closed_from) := ⟨rfl, rfl, rfl, by decide +kernel, rfl, by decide +kernel, by decide +kernel⟩
abbrev s_flat_bits : Stmt := topS 37
theorem sc_flat_bits : FnScope ["store"] ["store"] (defScope s_flat_bits) := ⟨rfl, rfl, rfl, by decide +kernel, rfl, by decide +kernel, by decide +kernel⟩
abbrev s_weight_of : Stmt := topS 39
theorem sc_weight_of : FnScope ["weights", "bits", "shelf"] ["weights", "bits"] (defScope s_weight_of) := ⟨rfl, rfl, rfl, by decide +kernel, rfl, by decide +kernel, by decide +kernel⟩
abbrev s_rising_bits : Stmt := topS 40
theorem sc_rising_bits : FnScope ["store", "weights", "bits"] ["store", "weights"] (defScope s_rising_bits) := ⟨rfl, rfl, rfl, by decide +kernel, rfl, by decide +kernel, by decide +kernel⟩
abbrev s_stays_of : Stmt := topS 41
theorem sc_stays_of : FnScope ["store", "weights"] ["store", "weights"] (defScope s_stays_of) := ⟨rfl, rfl, rfl, by decide +kernel, rfl, by decide +kernel, by decide +kernel⟩
abbrev s_unlike_weights : Stmt := topS 42
theorem sc_unlike_weights : FnScope ["store", "near", "far", "shelf"] ["store", "near", "far"] (defScope s_unlike_weights) := ⟨rfl, rfl, rfl, by decide +kernel, rfl, by decide +kernel, by decide +kernel⟩
abbrev s_never_more : Stmt := topS 44
theorem sc_never_more : FnScope ["store", "lot", "other", "told", "near"] ["store", "lot", "other"] (defScope s_never_more) := ⟨rfl, rfl, rfl, by decide +kernel, rfl, by decide +kernel, by decide +kernel⟩
abbrev s_want_shelf : Stmt := topS 30
theorem sc_want_shelf : FnScope ["store", "value"] ["store", "value"] (defScope s_want_shelf) := ⟨rfl, rfl, rfl, by decide +kernel, rfl, by decide +kernel, by decide +kernel⟩
abbrev s_want_other_shelf : Stmt := topS 31
theorem sc_want_other_shelf : FnScope ["store", "shelf", "value"] ["store", "shelf", "value"] (defScope s_want_other_shelf) := ⟨rfl, rfl, rfl, by decide +kernel, rfl, by decide +kernel, by decide +kernel⟩
abbrev s_holds : Stmt := topS 46
theorem sc_holds : FnScope ["bits", "shelf"] ["bits", "shelf"] (defScope s_holds) := ⟨rfl, rfl, rfl, by decide +kernel, rfl, by decide +kernel, by decide +kernel⟩
abbrev s_is_named : Stmt := topS 48
theorem sc_is_named : FnScope ["store", "shelf", "bits"] ["store", "shelf"] (defScope s_is_named) := ⟨rfl, rfl, rfl, by decide +kernel, rfl, by decide +kernel, by decide +kernel⟩
abbrev s_positions_with : Stmt := topS 47
theorem sc_positions_with : FnScope ["kinds", "shelf", "other", "at", "bits"] ["kinds", "shelf", "other"] (defScope s_positions_with) := ⟨rfl, rfl, rfl, by decide +kernel, rfl, by decide +kernel, by decide +kernel⟩
abbrev s_blame_of : Stmt := topS 49
theorem sc_blame_of : FnScope ["store", "shelf", "other"] ["store", "shelf", "other"] (defScope s_blame_of) := ⟨rfl, rfl, rfl, by decide +kernel, rfl, by decide +kernel, by decide +kernel⟩
abbrev s_is_never : Stmt := topS 50
theorem sc_is_never : FnScope ["store", "shelf", "other"] ["store", "shelf", "other"] (defScope s_is_never) := ⟨rfl, rfl, rfl, by decide +kernel, rfl, by decide +kernel, by decide +kernel⟩
abbrev s_never_two_above : Stmt := topS 51
theorem sc_never_two_above : FnScope ["store", "shelf", "other", "told"] ["store", "shelf", "other"] (defScope s_never_two_above) := ⟨rfl, rfl, rfl, by decide +kernel, rfl, by decide +kernel, by decide +kernel⟩
abbrev s_want_weights : Stmt := topS 33
theorem sc_want_weights : FnScope ["store", "value", "number"] ["store", "value"] (defScope s_want_weights) := ⟨rfl, rfl, rfl, by decide +kernel, rfl, by decide +kernel, by decide +kernel⟩
abbrev s_stays_below : Stmt := topS 43
theorem sc_stays_below : FnScope ["store", "weights", "told"] ["store", "weights"] (defScope s_stays_below) := ⟨rfl, rfl, rfl, by decide +kernel, rfl, by decide +kernel, by decide +kernel⟩
abbrev s__law_due : Stmt := topS 65
theorem sc__law_due : FnScope ["flats", "lot", "other", "one", "shelf"] ["flats", "lot", "other"] (defScope s__law_due) := ⟨rfl, rfl, rfl, by decide +kernel, rfl, by decide +kernel, by decide +kernel⟩
abbrev s__law_right : Stmt := topS 66
theorem sc__law_right : FnScope ["pot", "world", "store", "flats", "many", "lots", "told", "lot", "row", "first", "second", "third", "one", "other", "weights", "shelf", "far"] ["pot"] (defScope s__law_right) := ⟨rfl, rfl, rfl, by decide +kernel, rfl, by decide +kernel, by decide +kernel⟩
abbrev s__law_pot : Stmt := topS 53
theorem sc__law_pot : FnScope ["script", "k", "cell"] ["script", "k"] (defScope s__law_pot) := ⟨rfl, rfl, rfl, by decide +kernel, rfl, by decide +kernel, by decide +kernel⟩
abbrev s_law : Stmt := topS 67
theorem sc_law : FnScope ["script"] ["script"] (defScope s_law) := ⟨rfl, rfl, rfl, by decide +kernel, rfl, by decide +kernel, by decide +kernel⟩
def f__law_draw : FS := runF 2 3 (seqS (ifS (tst (opS gGt (opS gIx (vS 0) (cS (.int 0))) (cS (.int 0)))) (seqS (asgGS (tupG 2 (consG (ixG (vS 0) (cS (.int 0))) (consG (nmG 2) nilG))) (callS (cD divF) (consS (opS gIx (vS 0) (cS (.int 0))) (consS (vS 1) nilS))))
  (retS (vS 2))) nxS)
  (seqS (asgGS (ixG (vS 0) (cS (.int 1))) (opS gMod (callS (cD intF) (consS (opS gAdd (opS gMul (opS gIx (vS 0) (cS (.int 1))) (cS (.int 39541))) (cS (.int 7237))) nilS)) (cS (.int 2147483549))))
  (retS (opS gMod (callS (cD intF) (consS (opS gDiv (opS gMod (callS (cD intF) (consS (opS gMul (opS gIx (vS 0) (cS (.int 1))) (opS gIx (vS 0) (cS (.int 1)))) nilS)) (cS (.int 2147483543))) (cS (.int 23))) nilS)) (vS 1)))))
def B__law_kind_1 : SS := (seqS (asgS false 4 (hrd (fCall f__law_draw (consS (vS 0) (consS (vS 1) nilS)))))
  (ifS (tst (opS gNotInT (vS 4) (vS 2))) (exprS (methS ownLst appF (vS 2) (consS (vS 4) nilS))) nxS))
def f__law_kind : FS := runF 2 5 (seqS (asgS true 2 (callS lstF (consS (hrd (fCall f__law_draw (consS (vS 0) (consS (vS 1) nilS)))) nilS)))
  (seqS (forS (rngI rng1F (consS (fCall f__law_draw (consS (vS 0) (consS (cS (.int 3)) nilS))) nilS)) (nmG 3) B__law_kind_1)
  (retS (vS 2))))
def B__law_world_1 : SS := (exprS (methS ownLst appF (vS 3) (consS (hrd (fCall f__law_kind (consS (vS 0) (consS (vS 2) nilS)))) nilS)))
def B__law_world_2 : SS := (exprS (methS ownLst appF (vS 4) (consS (hrd (fCall f__law_kind (consS (vS 0) (consS (vS 2) nilS)))) nilS)))
def f__law_world : FS := runF 2 6 (seqS (parS [(2, false), (3, true), (4, true)] (consS (hrd (opS gAdd (cS (.int 2)) (fCall f__law_draw (consS (vS 0) (consS (opS gSub (vS 1) (cS (.int 1))) nilS))))) (consS (callS lstF nilS) (consS (callS lstF nilS) nilS))))
  (seqS (forS (rngI rng1F (consS (fCall f__law_draw (consS (vS 0) (consS (cS (.int 5)) nilS))) nilS)) (nmG 5) B__law_world_1)
  (seqS (forS (rngI rng1F (consS (fCall f__law_draw (consS (vS 0) (consS (cS (.int 4)) nilS))) nilS)) (nmG 5) B__law_world_2)
  (seqS (ifS (andT (tst (opS gNe (vS 3) (callS lstF nilS))) (tst (opS gEq (fCall f__law_draw (consS (vS 0) (consS (cS (.int 3)) nilS))) (cS (.int 0))))) (exprS (methS ownLst appF (vS 4) (consS (hrd (callS (cL listF) (consS (opS gIx (vS 3) (cS (.int 0))) nilS))) nilS))) nxS)
  (fzS 4 (fzS 3 (retS (callS tupF (consS (vS 2) (consS (vS 3) (consS (vS 4) nilS)))))))))))
def f_is_integer : FS := runF 1 1 (retS (andV (isiS isInt (vS 0)) (notV (isiS isBool (vS 0)))))
def f_is_count : FS := runF 1 1 (retS (andV (fCall f_is_integer (consS (vS 0) nilS)) (opS gGe (vS 0) (cS (.int 0)))))
def f_are_shelves : FS := runF 1 1 (retS (andV (fCall f_is_count (consS (vS 0) nilS)) (chS gLe gLe (cS (.int 2)) (vS 0) (cS (.int 8)))))
def f_want_shelves : FS := runF 1 1 (ifS (notT (tst (fCall f_are_shelves (consS (vS 0) nilS)))) nevS nxS)
def B_bits_of_1 : SS := (asgS false 1 (opS gOr (vS 1) (opS gShl (cS (.int 1)) (vS 2))))
def f_bits_of : FS := runF 1 3 (seqS (asgS false 1 (cS (.int 0)))
  (seqS (forS (seqI (vS 0)) (nmG 2) B_bits_of_1)
  (retS (vS 1))))
def f_spots_of : FS := runF 1 2 (retS (callS (cD tupleF) (consS (lcS (rngI rng1F (consS (cS (.int 8)) nilS)) (nmG 1) (tst (opS gEq (opS gAnd (opS gShr (vS 0) (vS 1)) (cS (.int 1))) (cS (.int 1)))) (vS 1) [1]) nilS)))
def f_told_lot : FS := runF 1 1 (retS (callS (cL listF) (consS (fCall f_spots_of (consS (vS 0) nilS)) nilS)))
def f_plain_kinds : FS := runF 1 3 (retS (callS (cD tupleF) (consS (lcS (seqI (hrd (callS (cL sortF2) (consS (lcS (seqI (hrd (callS sortSetF (consS (vS 0) nilS)))) (nmG 2) yesS (hrd (fCall f_told_lot (consS (vS 2) nilS))) [2]) nilS)))) (nmG 1) yesS (hrd (fCall f_bits_of (consS (vS 1) nilS))) [1]) nilS)))
def f_is_list : FS := runF 1 1 (retS (isiS (fun d => isList d || (fun d => isTuple d || (fun _ => false) d) d) (vS 0)))
def f_is_lot_of : FS := runF 2 3 (seqS (ifS (orT (notT (tst (fCall f_is_list (consS (vS 1) nilS)))) (notT (tst (callS (cD allF) (consS (lcS (seqI (vS 1)) (nmG 2) yesS (andV (fCall f_is_count (consS (vS 2) nilS)) (opS gLt (vS 2) (vS 0))) [2]) nilS))))) (retS (cS (.bool false))) nxS)
  (retS (opS gEq (callS (cD lenF) (consS (callS sortSetF (consS (vS 1) nilS)) nilS)) (callS (cD lenF) (consS (vS 1) nilS)))))
def f_is_kind : FS := runF 2 2 (retS (andV (fCall f_is_lot_of (consS (vS 0) (consS (vS 1) nilS))) (opS gGt (callS (cD lenF) (consS (vS 1) nilS)) (cS (.int 0)))))
def f_are_kinds : FS := runF 2 3 (retS (andV (fCall f_is_list (consS (vS 1) nilS)) (andV (opS gLe (callS (cD lenF) (consS (vS 1) nilS)) (cS (.int 8))) (callS (cD allF) (consS (lcS (seqI (vS 1)) (nmG 2) yesS (hrd (fCall f_is_kind (consS (vS 0) (consS (vS 2) nilS)))) [2]) nilS)))))
def f_Store_init : FS := runF 4 5 (seqS (exprS (fCall f_want_shelves (consS (vS 1) nilS)))
  (seqS (ifS (notT (tst (fCall f_are_kinds (consS (vS 1) (consS (vS 2) nilS))))) nevS nxS)
  (seqS (ifS (notT (tst (fCall f_are_kinds (consS (vS 1) (consS (vS 3) nilS))))) nevS nxS)
  (seqS (setFS ("Store" : Str) ("own_shelves" : Str) (vS 0) (vS 1))
  (seqS (setFS ("Store" : Str) ("own_deliveries" : Str) (vS 0) (hrd (fCall f_plain_kinds (consS (hrd (lcS (seqI (vS 2)) (nmG 4) yesS (hrd (fCall f_bits_of (consS (vS 4) nilS))) [4])) nilS))))
  (seqS (setFS ("Store" : Str) ("own_sales" : Str) (vS 0) (hrd (fCall f_plain_kinds (consS (hrd (lcS (seqI (vS 3)) (nmG 4) yesS (hrd (fCall f_bits_of (consS (vS 4) nilS))) [4])) nilS))))
  (setKS ("Store" : Str) ("own_kept" : Str) (vS 0))))))))
def f__law_store : FS := runF 1 1 (retS (fMake ("Store" : Str) f_Store_init (consS (opS gIx (vS 0) (cS (.int 0))) (consS (opS gIx (vS 0) (cS (.int 1))) (consS (opS gIx (vS 0) (cS (.int 2))) nilS)))))
def f__law_steps : FS := runF 1 2 (retS (opS gAdd (lcS (rngI rng1F (consS (callS (cD lenF) (consS (opS gIx (vS 0) (cS (.int 1))) nilS)) nilS)) (nmG 1) yesS (callS tupF (consS (cS (.str ("lay" : Str))) (consS (vS 1) nilS))) [1]) (lcS (rngI rng1F (consS (callS (cD lenF) (consS (opS gIx (vS 0) (cS (.int 2))) nilS)) nilS)) (nmG 1) yesS (callS tupF (consS (cS (.str ("off" : Str))) (consS (vS 1) nilS))) [1])))
def f__law_led : FS := runF 3 4 (seqS (ifS (tst (opS gEq (opS gIx (vS 2) (cS (.int 0))) (cS (.str ("lay" : Str))))) (retS (callS (cL sortF2) (consS (opS gAdd (vS 1) (lcS (seqI (opS gIx (opS gIx (vS 0) (cS (.int 1))) (opS gIx (vS 2) (cS (.int 1))))) (nmG 3) (tst (opS gNotInT (vS 3) (vS 1))) (vS 3) [3])) nilS))) nxS)
  (retS (lcS (seqI (vS 1)) (nmG 3) (tst (opS gNotInT (vS 3) (opS gIx (opS gIx (vS 0) (cS (.int 2))) (opS gIx (vS 2) (cS (.int 1)))))) (vS 3) [3])))
def B__law_flats_1 : SS := (seqS (asgS false 5 (hrd (fCall f__law_led (consS (vS 0) (consS (opS gIx (vS 1) (vS 2)) (consS (vS 4) nilS))))))
  (ifS (tst (opS gNotInT (vS 5) (vS 1))) (exprS (methS ownLst appF (vS 1) (consS (vS 5) nilS))) nxS))
def B__law_flats_2 : SS := (seqS (forS (seqI (vS 3)) (nmG 4) B__law_flats_1)
  (asgS false 2 (hrd (opS gAdd (vS 2) (cS (.int 1))))))
def f__law_flats : FS := runF 1 6 (seqS (parS [(1, true), (2, false), (3, false)] (consS (callS lstF (consS (hrd (callS lstF nilS)) nilS)) (consS (cS (.int 0)) (consS (hrd (fCall f__law_steps (consS (vS 0) nilS))) nilS))))
  (seqS (whileL (tst (opS gLt (vS 2) (callS (cD lenF) (consS (vS 1) nilS)))) B__law_flats_2 fuel)
  (retS (callS (cL sortF2) (consS (vS 1) nilS)))))
def B__law_order_1 : SS := (exprS (methS ownLst appF (vS 3) (consS (methS ownLst popAtF (vS 2) (consS (fCall f__law_draw (consS (vS 0) (consS (callS (cD lenF) (consS (vS 2) nilS)) nilS))) nilS)) nilS)))
def f__law_order : FS := runF 2 5 (seqS (parS [(2, true), (3, true)] (consS (unS listR1 (vS 1)) (consS (callS lstF nilS) nilS)))
  (seqS (forS (rngI rng1F (consS (vS 1) nilS)) (nmG 4) B__law_order_1)
  (retS (vS 3))))
def f__law_lot : FS := runF 2 3 (retS (slS (lcS (seqI (hrd (fCall f__law_order (consS (vS 0) (consS (vS 1) nilS))))) (nmG 2) yesS (vS 2) [2]) noP (someP (fCall f__law_draw (consS (vS 0) (consS (hrd (opS gAdd (vS 1) (cS (.int 1)))) nilS))))))
def B__law_told_1 : SS := (ifS (tst (opS gNotInT (vS 2) (vS 1))) (exprS (methS ownLst appF (vS 1) (consS (vS 2) nilS))) nxS)
def f__law_told : FS := runF 1 4 (seqS (asgS true 1 (callS lstF nilS))
  (seqS (forS (seqI (hrd (callS (cL sortF2) (consS (lcS (seqI (vS 0)) (nmG 3) yesS (hrd (callS (cL sortF2) (consS (vS 3) nilS))) [3]) nilS)))) (nmG 2) B__law_told_1)
  (retS (vS 1))))
def f__law_plain : FS := runF 1 1 (retS (callS tupF (consS (opS gIx (vS 0) (cS (.int 0))) (consS (hrd (fCall f__law_told (consS (opS gIx (vS 0) (cS (.int 1))) nilS))) (consS (hrd (fCall f__law_told (consS (opS gIx (vS 0) (cS (.int 2))) nilS))) nilS)))))
def f_want_store : FS := runF 1 1 (seqS (ifS (notT (tst (isoS ("Store" : Str) (vS 0)))) nevS nxS)
  (retS (vS 0)))
def f_want_lot : FS := runF 2 2 (seqS (ifS (notT (tst (fCall f_is_lot_of (consS (vS 0) (consS (vS 1) nilS))))) nevS nxS)
  (retS (fCall f_bits_of (consS (vS 1) nilS))))
def f_want_lot_of : FS := runF 2 2 (retS (fCall f_want_lot (consS (unS (fldF ("Store" : Str) ("own_shelves" : Str)) (vS 0)) (consS (vS 1) nilS))))
def f_led_on : FS := runF 2 3 (retS (opS gAdd (lcS (seqI (unS (fldF ("Store" : Str) ("own_deliveries" : Str)) (vS 0))) (nmG 2) yesS (opS gOr (vS 1) (vS 2)) [2]) (lcS (seqI (unS (fldF ("Store" : Str) ("own_sales" : Str)) (vS 0))) (nmG 2) yesS (opS gAnd (vS 1) (unS gInv (vS 2))) [2])))
def B_closed_from_1 : SS := (seqS (asgS false 4 (methS ownLst popF (vS 3) nilS))
  (ifS (tst (opS (gKIn not) (vS 4) (vS 2))) (seqS (asgGS (kxG (vS 2) (vS 4)) (cS (.bool true)))
  (exprS (methS ownLst extF (vS 3) (consS (lcS (seqI (hrd (fCall f_led_on (consS (vS 0) (consS (vS 4) nilS))))) (nmG 5) (tst (opS (gKIn not) (vS 5) (vS 2))) (vS 5) [5]) nilS)))) nxS))
def f_closed_from : FS := runF 2 6 (seqS (parS [(2, true), (3, true)] (consS dnS (consS (opS gAdd (callS lstF (consS (cS (.int 0)) nilS)) (callS (cL listF) (consS (vS 1) nilS))) nilS)))
  (seqS (whileL (tst (opS gNe (vS 3) (callS lstF nilS))) B_closed_from_1 fuel)
  (retS (callS kListF (consS (vS 2) nilS)))))
noncomputable def f_flat_bits : FS := runF 1 1 (keepS (fCall f_closed_from (consS (vS 0) (consS (hrd (callS lstF nilS)) nilS))))
def f_weight_of : FS := runF 2 3 (retS (callS (cD sumF2) (consS (lcS (seqI (hrd (fCall f_spots_of (consS (vS 1) nilS)))) (nmG 2) yesS (opS gIx (vS 0) (vS 2)) [2]) nilS)))
def B_rising_bits_1 : SS := (ifS (tst (opS gGt (fCall f_weight_of (consS (vS 1) (consS (vS 2) nilS))) (cS (.int 0)))) (retS (vS 2)) nxS)
noncomputable def f_rising_bits : FS := runF 2 3 (seqS (forS (seqI (hrd (fCall f_flat_bits (consS (vS 0) nilS)))) (nmG 2) B_rising_bits_1)
  (retS (cS .none)))
noncomputable def f_stays_of : FS := runF 2 2 (retS (opS (d2 (isF id)) (fCall f_rising_bits (consS (vS 0) (consS (vS 1) nilS))) (cS .none)))
def f_unlike_weights : FS := runF 3 4 (retS (callS (cD tupleF) (consS (lcS (rngI rng1F (consS (unS (fldF ("Store" : Str) ("own_shelves" : Str)) (vS 0)) nilS)) (nmG 3) yesS (opS gSub (opS gAnd (opS gShr (vS 1) (vS 3)) (cS (.int 1))) (opS gAnd (opS gShr (vS 2) (vS 3)) (cS (.int 1)))) [3]) nilS)))
noncomputable def f_never_more : FS := runF 3 5 (seqS (asgS false 3 (hrd (fCall f_want_store (consS (vS 0) nilS))))
  (seqS (asgS false 4 (hrd (fCall f_want_lot_of (consS (vS 3) (consS (vS 1) nilS)))))
  (retS (fCall f_stays_of (consS (vS 3) (consS (hrd (fCall f_unlike_weights (consS (vS 3) (consS (vS 4) (consS (hrd (fCall f_want_lot_of (consS (vS 3) (consS (vS 2) nilS)))) nilS))))) nilS))))))
def f_want_shelf : FS := runF 2 2 (ifS (orT (notT (tst (fCall f_is_count (consS (vS 1) nilS)))) (tst (opS gGe (vS 1) (unS (fldF ("Store" : Str) ("own_shelves" : Str)) (vS 0))))) nevS nxS)
def f_want_other_shelf : FS := runF 3 3 (seqS (exprS (fCall f_want_shelf (consS (vS 0) (consS (vS 2) nilS))))
  (ifS (tst (opS gEq (vS 2) (vS 1))) nevS nxS))
def f_holds : FS := runF 2 2 (retS (opS gEq (opS gAnd (opS gShr (vS 0) (vS 1)) (cS (.int 1))) (cS (.int 1))))
def f_is_named : FS := runF 2 3 (retS (callS (cD anyF) (consS (lcS (seqI (unS (fldF ("Store" : Str) ("own_deliveries" : Str)) (vS 0))) (nmG 2) yesS (hrd (fCall f_holds (consS (vS 2) (consS (vS 1) nilS)))) [2]) nilS)))
def f_positions_with : FS := runF 3 5 (retS (lcS (enumI (vS 0)) (tupN [3, 4]) (andT (tst (fCall f_holds (consS (vS 4) (consS (vS 1) nilS)))) (notT (tst (fCall f_holds (consS (vS 4) (consS (vS 2) nilS)))))) (vS 3) [3, 4]))
def f_blame_of : FS := runF 3 3 (seqS (ifS (notT (tst (fCall f_is_named (consS (vS 0) (consS (vS 1) nilS))))) (retS (callS tupF (consS (hrd (callS lstF nilS)) (consS (hrd (callS lstF nilS)) nilS)))) nxS)
  (retS (callS tupF (consS (hrd (fCall f_positions_with (consS (unS (fldF ("Store" : Str) ("own_deliveries" : Str)) (vS 0)) (consS (vS 1) (consS (vS 2) nilS))))) (consS (hrd (fCall f_positions_with (consS (unS (fldF ("Store" : Str) ("own_sales" : Str)) (vS 0)) (consS (vS 2) (consS (vS 1) nilS))))) nilS)))))
def f_is_never : FS := runF 3 3 (retS (opS gEq (fCall f_blame_of (consS (vS 0) (consS (vS 1) (consS (vS 2) nilS)))) (callS tupF (consS (hrd (callS lstF nilS)) (consS (hrd (callS lstF nilS)) nilS)))))
def f_never_two_above : FS := runF 3 4 (seqS (asgS false 3 (hrd (fCall f_want_store (consS (vS 0) nilS))))
  (seqS (exprS (fCall f_want_shelf (consS (vS 3) (consS (vS 1) nilS))))
  (seqS (exprS (fCall f_want_other_shelf (consS (vS 3) (consS (vS 1) (consS (vS 2) nilS)))))
  (retS (fCall f_is_never (consS (vS 3) (consS (vS 1) (consS (vS 2) nilS))))))))
def f_want_weights : FS := runF 2 3 (seqS (ifS (orT (notT (tst (fCall f_is_list (consS (vS 1) nilS)))) (orT (tst (opS gNe (callS (cD lenF) (consS (vS 1) nilS)) (unS (fldF ("Store" : Str) ("own_shelves" : Str)) (vS 0)))) (notT (tst (callS (cD allF) (consS (lcS (seqI (vS 1)) (nmG 2) yesS (hrd (fCall f_is_integer (consS (vS 2) nilS))) [2]) nilS)))))) nevS nxS)
  (retS (callS (cD tupleF) (consS (vS 1) nilS))))
noncomputable def f_stays_below : FS := runF 2 3 (seqS (asgS false 2 (hrd (fCall f_want_store (consS (vS 0) nilS))))
  (retS (fCall f_stays_of (consS (vS 2) (consS (hrd (fCall f_want_weights (consS (vS 2) (consS (vS 1) nilS)))) nilS)))))
def f__law_due : FS := runF 3 5 (retS (callS (cD allF) (consS (lcS (seqI (vS 0)) (nmG 3) yesS (opS gLe (callS (cD lenF) (consS (lcS (seqI (vS 3)) (nmG 4) (tst (opS gInT (vS 4) (vS 1))) (vS 4) [4]) nilS)) (callS (cD lenF) (consS (lcS (seqI (vS 3)) (nmG 4) (tst (opS gInT (vS 4) (vS 2))) (vS 4) [4]) nilS))) [3]) nilS)))
noncomputable def B__law_right_1 : SS := (seqS (asgS false 8 (hrd (lcS (seqI (vS 5)) (nmG 13) yesS (hrd (fCall f_never_more (consS (vS 2) (consS (vS 7) (consS (vS 13) nilS))))) [13])))
  (seqS (ifS (tst (opS gNe (callS (cV reprF) (consS (vS 8) nilS)) (callS (cV reprF) (consS (lcS (seqI (vS 5)) (nmG 13) yesS (hrd (fCall f__law_due (consS (vS 3) (consS (vS 7) (consS (vS 13) nilS))))) [13]) nilS)))) (retS (cS (.bool false))) nxS)
  (exprS (methS ownLst appF (vS 6) (consS (vS 8) nilS)))))
def B__law_right_2 : SS := (seqS (ifS (tst (opS (d2 (isF not)) (opS gIx (opS gIx (vS 6) (vS 9)) (vS 9)) (cS (.bool true)))) (retS (cS (.bool false))) nxS)
  (seqS (parS [(10, false), (11, false)] (consS (opS gMod (callS (cD intF) (consS (opS gAdd (vS 9) (cS (.int 1))) nilS)) (cS (.int 3))) (consS (opS gMod (callS (cD intF) (consS (opS gAdd (vS 9) (cS (.int 2))) nilS)) (cS (.int 3))) nilS)))
  (seqS (ifS (andT (tst (opS gIx (opS gIx (vS 6) (vS 9)) (vS 10))) (andT (tst (opS gIx (opS gIx (vS 6) (vS 10)) (vS 11))) (notT (tst (opS gIx (opS gIx (vS 6) (vS 9)) (vS 11)))))) (retS (cS (.bool false))) nxS)
  (ifS (andT (tst (opS gIx (opS gIx (vS 6) (vS 9)) (vS 11))) (andT (tst (opS gIx (opS gIx (vS 6) (vS 11)) (vS 10))) (notT (tst (opS gIx (opS gIx (vS 6) (vS 9)) (vS 10)))))) (retS (cS (.bool false))) nxS))))
noncomputable def f__law_right : FS := runF 1 17 (seqS (asgS false 1 (hrd (fCall f__law_world (consS (vS 0) (consS (cS (.int 5)) nilS)))))
  (seqS (parS [(2, false), (3, false), (4, false)] (consS (hrd (fCall f__law_store (consS (vS 1) nilS))) (consS (hrd (fCall f__law_flats (consS (hrd (fCall f__law_plain (consS (vS 1) nilS))) nilS))) (consS (opS gIx (vS 1) (cS (.int 0))) nilS))))
  (seqS (asgS false 5 (hrd (callS lstF (consS (hrd (fCall f__law_lot (consS (vS 0) (consS (vS 4) nilS)))) (consS (hrd (fCall f__law_lot (consS (vS 0) (consS (vS 4) nilS)))) (consS (hrd (fCall f__law_lot (consS (vS 0) (consS (vS 4) nilS)))) nilS))))))
  (seqS (asgS true 6 (callS lstF nilS))
  (seqS (forS (seqI (vS 5)) (nmG 7) B__law_right_1)
  (seqS (forS (rngI rng1F (consS (cS (.int 3)) nilS)) (nmG 9) B__law_right_2)
  (seqS (parS [(12, false), (13, false)] (consS (opS gIx (vS 5) (cS (.int 0))) (consS (opS gIx (vS 5) (cS (.int 1))) nilS)))
  (seqS (asgS false 14 (hrd (lcS (rngI rng1F (consS (vS 4) nilS)) (nmG 15) yesS (opS gSub (callS (cD intF) (consS (opS gInT (vS 15) (vS 12)) nilS)) (callS (cD intF) (consS (opS gInT (vS 15) (vS 13)) nilS))) [15])))
  (seqS (ifS (orT (tst (opS gNe (callS (cV reprF) (consS (fCall f_stays_below (consS (vS 2) (consS (vS 14) nilS))) nilS)) (callS (cV reprF) (consS (opS gIx (opS gIx (vS 6) (cS (.int 0))) (cS (.int 1))) nilS)))) (tst (opS gNe (callS (cV reprF) (consS (fCallK f_never_more 0 3 [2, 1, 0] nilS (consS (callS (cD tupleF) (consS (vS 13) nilS)) (consS (hrd (callS (cL sortF2) (consS (vS 12) nilS))) (consS (vS 2) nilS)))) nilS)) (callS (cV reprF) (consS (opS gIx (opS gIx (vS 6) (cS (.int 0))) (cS (.int 1))) nilS))))) (retS (cS (.bool false))) nxS)
  (seqS (ifS (orT (tst (opS (d2 (isF not)) (fCall f_never_more (consS (vS 2) (consS (hrd (callS lstF nilS)) (consS (vS 13) nilS)))) (cS (.bool true)))) (tst (opS (d2 (isF not)) (fCall f_never_more (consS (vS 2) (consS (vS 13) (consS (hrd (unS listR1 (vS 4))) nilS)))) (cS (.bool true))))) (retS (cS (.bool false))) nxS)
  (seqS (asgS false 15 (hrd (fCall f__law_draw (consS (vS 0) (consS (vS 4) nilS)))))
  (seqS (asgS false 16 (opS gMod (callS (cD intF) (consS (opS gAdd (opS gAdd (vS 15) (cS (.int 1))) (fCall f__law_draw (consS (vS 0) (consS (opS gSub (vS 4) (cS (.int 1))) nilS)))) nilS)) (vS 4)))
  (retS (opS gEq (callS (cV reprF) (consS (fCall f_never_more (consS (vS 2) (consS (hrd (callS lstF (consS (vS 15) nilS))) (consS (hrd (callS lstF (consS (vS 16) nilS))) nilS)))) nilS)) (callS (cV reprF) (consS (fCall f_never_two_above (consS (vS 2) (consS (vS 15) (consS (vS 16) nilS)))) nilS))))))))))))))))
def f__law_pot : FS := runF 2 3 (seqS (asgS false 2 (hrd (ifE (tst (opS gLt (vS 1) (callS (cD lenF) (consS (vS 0) nilS)))) (callS (cD absF) (consS (opS gIx (vS 0) (vS 1)) nilS)) (opS gAdd (opS gMul (cS (.int 947)) (vS 1)) (cS (.int 853))))))
  (retS (callS lstF (consS (callS (cD maxF2) (consS (cS (.int 0)) (consS (opS gSub (vS 2) (opS gPow (cS (.int 10)) (cS (.int 18)))) nilS))) (consS (hrd (opS gAdd (opS gMod (callS (cD intF) (consS (opS gAdd (opS gAdd (opS gMul (opS gMod (callS (cD intF) (consS (vS 2) nilS)) (cS (.int 2147483543))) (cS (.int 40471))) (opS gMul (cS (.int 7237)) (vS 1))) (cS (.int 229))) nilS)) (cS (.int 2147483549))) (cS (.int 1)))) nilS)))))
noncomputable def f_law : FS := runF 1 1 (retS (fCall f__law_right (consS (fCall f__law_pot (consS (vS 0) (consS (cS (.int 0)) nilS))) nilS)))
structure Tx (K : PySem.W.Frag) (mg : Str → Option Value) where
  a__law_draw : Addr
  d__law_draw : FuncData
  F__law_draw : Fun K "_law_draw" "_law_draw" s__law_draw a__law_draw d__law_draw
  b__law_draw : Binds K d__law_draw ["pot", "size"] []
  g__law_draw : mg "_law_draw" = some (.ref a__law_draw)
  a__law_kind : Addr
  d__law_kind : FuncData
  F__law_kind : Fun K "_law_kind" "_law_kind" s__law_kind a__law_kind d__law_kind
  b__law_kind : Binds K d__law_kind ["pot", "shelves"] []
  g__law_kind : mg "_law_kind" = some (.ref a__law_kind)
  a__law_world : Addr
  d__law_world : FuncData
  F__law_world : Fun K "_law_world" "_law_world" s__law_world a__law_world d__law_world
  b__law_world : Binds K d__law_world ["pot", "most"] []
  g__law_world : mg "_law_world" = some (.ref a__law_world)
  a_is_integer : Addr
  d_is_integer : FuncData
  F_is_integer : Fun K "is_integer" "is_integer" s_is_integer a_is_integer d_is_integer
  b_is_integer : Binds K d_is_integer ["value"] []
  g_is_integer : mg "is_integer" = some (.ref a_is_integer)
  a_is_count : Addr
  d_is_count : FuncData
  F_is_count : Fun K "is_count" "is_count" s_is_count a_is_count d_is_count
  b_is_count : Binds K d_is_count ["value"] []
  g_is_count : mg "is_count" = some (.ref a_is_count)
  a_are_shelves : Addr
  d_are_shelves : FuncData
  F_are_shelves : Fun K "are_shelves" "are_shelves" s_are_shelves a_are_shelves d_are_shelves
  b_are_shelves : Binds K d_are_shelves ["value"] []
  g_are_shelves : mg "are_shelves" = some (.ref a_are_shelves)
  a_want_shelves : Addr
  d_want_shelves : FuncData
  F_want_shelves : Fun K "want_shelves" "want_shelves" s_want_shelves a_want_shelves d_want_shelves
  b_want_shelves : Binds K d_want_shelves ["value"] []
  g_want_shelves : mg "want_shelves" = some (.ref a_want_shelves)
  a_bits_of : Addr
  d_bits_of : FuncData
  F_bits_of : Fun K "bits_of" "bits_of" s_bits_of a_bits_of d_bits_of
  b_bits_of : Binds K d_bits_of ["lot"] []
  g_bits_of : mg "bits_of" = some (.ref a_bits_of)
  a_spots_of : Addr
  d_spots_of : FuncData
  F_spots_of : Fun K "spots_of" "spots_of" s_spots_of a_spots_of d_spots_of
  b_spots_of : Binds K d_spots_of ["bits"] []
  g_spots_of : mg "spots_of" = some (.ref a_spots_of)
  a_told_lot : Addr
  d_told_lot : FuncData
  F_told_lot : Fun K "told_lot" "told_lot" s_told_lot a_told_lot d_told_lot
  b_told_lot : Binds K d_told_lot ["bits"] []
  g_told_lot : mg "told_lot" = some (.ref a_told_lot)
  a_plain_kinds : Addr
  d_plain_kinds : FuncData
  F_plain_kinds : Fun K "plain_kinds" "plain_kinds" s_plain_kinds a_plain_kinds d_plain_kinds
  b_plain_kinds : Binds K d_plain_kinds ["kinds"] []
  g_plain_kinds : mg "plain_kinds" = some (.ref a_plain_kinds)
  a_is_list : Addr
  d_is_list : FuncData
  F_is_list : Fun K "is_list" "is_list" s_is_list a_is_list d_is_list
  b_is_list : Binds K d_is_list ["value"] []
  g_is_list : mg "is_list" = some (.ref a_is_list)
  a_is_lot_of : Addr
  d_is_lot_of : FuncData
  F_is_lot_of : Fun K "is_lot_of" "is_lot_of" s_is_lot_of a_is_lot_of d_is_lot_of
  b_is_lot_of : Binds K d_is_lot_of ["shelves", "value"] []
  g_is_lot_of : mg "is_lot_of" = some (.ref a_is_lot_of)
  a_is_kind : Addr
  d_is_kind : FuncData
  F_is_kind : Fun K "is_kind" "is_kind" s_is_kind a_is_kind d_is_kind
  b_is_kind : Binds K d_is_kind ["shelves", "value"] []
  g_is_kind : mg "is_kind" = some (.ref a_is_kind)
  a_are_kinds : Addr
  d_are_kinds : FuncData
  F_are_kinds : Fun K "are_kinds" "are_kinds" s_are_kinds a_are_kinds d_are_kinds
  b_are_kinds : Binds K d_are_kinds ["shelves", "value"] []
  g_are_kinds : mg "are_kinds" = some (.ref a_are_kinds)
  a_Store_init : Addr
  d_Store_init : FuncData
  F_Store_init : Fun K "__init__" "Store.__init__" s_Store_init a_Store_init d_Store_init
  b_Store_init : Binds K d_Store_init ["self", "shelves", "deliveries", "sales"] []
  a__law_store : Addr
  d__law_store : FuncData
  F__law_store : Fun K "_law_store" "_law_store" s__law_store a__law_store d__law_store
  b__law_store : Binds K d__law_store ["world"] []
  g__law_store : mg "_law_store" = some (.ref a__law_store)
  a__law_steps : Addr
  d__law_steps : FuncData
  F__law_steps : Fun K "_law_steps" "_law_steps" s__law_steps a__law_steps d__law_steps
  b__law_steps : Binds K d__law_steps ["plain"] []
  g__law_steps : mg "_law_steps" = some (.ref a__law_steps)
  a__law_led : Addr
  d__law_led : FuncData
  F__law_led : Fun K "_law_led" "_law_led" s__law_led a__law_led d__law_led
  b__law_led : Binds K d__law_led ["plain", "lot", "step"] []
  g__law_led : mg "_law_led" = some (.ref a__law_led)
  a__law_flats : Addr
  d__law_flats : FuncData
  F__law_flats : Fun K "_law_flats" "_law_flats" s__law_flats a__law_flats d__law_flats
  b__law_flats : Binds K d__law_flats ["plain"] []
  g__law_flats : mg "_law_flats" = some (.ref a__law_flats)
  a__law_order : Addr
  d__law_order : FuncData
  F__law_order : Fun K "_law_order" "_law_order" s__law_order a__law_order d__law_order
  b__law_order : Binds K d__law_order ["pot", "many"] []
  g__law_order : mg "_law_order" = some (.ref a__law_order)
  a__law_lot : Addr
  d__law_lot : FuncData
  F__law_lot : Fun K "_law_lot" "_law_lot" s__law_lot a__law_lot d__law_lot
  b__law_lot : Binds K d__law_lot ["pot", "many"] []
  g__law_lot : mg "_law_lot" = some (.ref a__law_lot)
  a__law_told : Addr
  d__law_told : FuncData
  F__law_told : Fun K "_law_told" "_law_told" s__law_told a__law_told d__law_told
  b__law_told : Binds K d__law_told ["kinds"] []
  g__law_told : mg "_law_told" = some (.ref a__law_told)
  a__law_plain : Addr
  d__law_plain : FuncData
  F__law_plain : Fun K "_law_plain" "_law_plain" s__law_plain a__law_plain d__law_plain
  b__law_plain : Binds K d__law_plain ["world"] []
  g__law_plain : mg "_law_plain" = some (.ref a__law_plain)
  a_want_store : Addr
  d_want_store : FuncData
  F_want_store : Fun K "want_store" "want_store" s_want_store a_want_store d_want_store
  b_want_store : Binds K d_want_store ["value"] []
  g_want_store : mg "want_store" = some (.ref a_want_store)
  a_want_lot : Addr
  d_want_lot : FuncData
  F_want_lot : Fun K "want_lot" "want_lot" s_want_lot a_want_lot d_want_lot
  b_want_lot : Binds K d_want_lot ["shelves", "value"] []
  g_want_lot : mg "want_lot" = some (.ref a_want_lot)
  a_want_lot_of : Addr
  d_want_lot_of : FuncData
  F_want_lot_of : Fun K "want_lot_of" "want_lot_of" s_want_lot_of a_want_lot_of d_want_lot_of
  b_want_lot_of : Binds K d_want_lot_of ["store", "value"] []
  g_want_lot_of : mg "want_lot_of" = some (.ref a_want_lot_of)
  a_led_on : Addr
  d_led_on : FuncData
  F_led_on : Fun K "led_on" "led_on" s_led_on a_led_on d_led_on
  b_led_on : Binds K d_led_on ["store", "bits"] []
  g_led_on : mg "led_on" = some (.ref a_led_on)
  a_closed_from : Addr
  d_closed_from : FuncData
  F_closed_from : Fun K "closed_from" "closed_from" s_closed_from a_closed_from d_closed_from
  b_closed_from : Binds K d_closed_from ["store", "some"] []
  g_closed_from : mg "closed_from" = some (.ref a_closed_from)
  a_flat_bits : Addr
  d_flat_bits : FuncData
  F_flat_bits : Fun K "flat_bits" "flat_bits" s_flat_bits a_flat_bits d_flat_bits
  b_flat_bits : Binds K d_flat_bits ["store"] []
  g_flat_bits : mg "flat_bits" = some (.ref a_flat_bits)
  a_weight_of : Addr
  d_weight_of : FuncData
  F_weight_of : Fun K "weight_of" "weight_of" s_weight_of a_weight_of d_weight_of
  b_weight_of : Binds K d_weight_of ["weights", "bits"] []
  g_weight_of : mg "weight_of" = some (.ref a_weight_of)
  a_rising_bits : Addr
  d_rising_bits : FuncData
  F_rising_bits : Fun K "rising_bits" "rising_bits" s_rising_bits a_rising_bits d_rising_bits
  b_rising_bits : Binds K d_rising_bits ["store", "weights"] []
  g_rising_bits : mg "rising_bits" = some (.ref a_rising_bits)
  a_stays_of : Addr
  d_stays_of : FuncData
  F_stays_of : Fun K "stays_of" "stays_of" s_stays_of a_stays_of d_stays_of
  b_stays_of : Binds K d_stays_of ["store", "weights"] []
  g_stays_of : mg "stays_of" = some (.ref a_stays_of)
  a_unlike_weights : Addr
  d_unlike_weights : FuncData
  F_unlike_weights : Fun K "unlike_weights" "unlike_weights" s_unlike_weights a_unlike_weights d_unlike_weights
  b_unlike_weights : Binds K d_unlike_weights ["store", "near", "far"] []
  g_unlike_weights : mg "unlike_weights" = some (.ref a_unlike_weights)
  a_never_more : Addr
  d_never_more : FuncData
  F_never_more : Fun K "never_more" "never_more" s_never_more a_never_more d_never_more
  b_never_more : Binds K d_never_more ["store", "lot", "other"] []
  g_never_more : mg "never_more" = some (.ref a_never_more)
  a_want_shelf : Addr
  d_want_shelf : FuncData
  F_want_shelf : Fun K "want_shelf" "want_shelf" s_want_shelf a_want_shelf d_want_shelf
  b_want_shelf : Binds K d_want_shelf ["store", "value"] []
  g_want_shelf : mg "want_shelf" = some (.ref a_want_shelf)
  a_want_other_shelf : Addr
  d_want_other_shelf : FuncData
  F_want_other_shelf : Fun K "want_other_shelf" "want_other_shelf" s_want_other_shelf a_want_other_shelf d_want_other_shelf
  b_want_other_shelf : Binds K d_want_other_shelf ["store", "shelf", "value"] []
  g_want_other_shelf : mg "want_other_shelf" = some (.ref a_want_other_shelf)
  a_holds : Addr
  d_holds : FuncData
  F_holds : Fun K "holds" "holds" s_holds a_holds d_holds
  b_holds : Binds K d_holds ["bits", "shelf"] []
  g_holds : mg "holds" = some (.ref a_holds)
  a_is_named : Addr
  d_is_named : FuncData
  F_is_named : Fun K "is_named" "is_named" s_is_named a_is_named d_is_named
  b_is_named : Binds K d_is_named ["store", "shelf"] []
  g_is_named : mg "is_named" = some (.ref a_is_named)
  a_positions_with : Addr
  d_positions_with : FuncData
  F_positions_with : Fun K "positions_with" "positions_with" s_positions_with a_positions_with d_positions_with
  b_positions_with : Binds K d_positions_with ["kinds", "shelf", "other"] []
  g_positions_with : mg "positions_with" = some (.ref a_positions_with)
  a_blame_of : Addr
  d_blame_of : FuncData
  F_blame_of : Fun K "blame_of" "blame_of" s_blame_of a_blame_of d_blame_of
  b_blame_of : Binds K d_blame_of ["store", "shelf", "other"] []
  g_blame_of : mg "blame_of" = some (.ref a_blame_of)
  a_is_never : Addr
  d_is_never : FuncData
  F_is_never : Fun K "is_never" "is_never" s_is_never a_is_never d_is_never
  b_is_never : Binds K d_is_never ["store", "shelf", "other"] []
  g_is_never : mg "is_never" = some (.ref a_is_never)
  a_never_two_above : Addr
  d_never_two_above : FuncData
  F_never_two_above : Fun K "never_two_above" "never_two_above" s_never_two_above a_never_two_above d_never_two_above
  b_never_two_above : Binds K d_never_two_above ["store", "shelf", "other"] []
  g_never_two_above : mg "never_two_above" = some (.ref a_never_two_above)
  a_want_weights : Addr
  d_want_weights : FuncData
  F_want_weights : Fun K "want_weights" "want_weights" s_want_weights a_want_weights d_want_weights
  b_want_weights : Binds K d_want_weights ["store", "value"] []
  g_want_weights : mg "want_weights" = some (.ref a_want_weights)
  a_stays_below : Addr
  d_stays_below : FuncData
  F_stays_below : Fun K "stays_below" "stays_below" s_stays_below a_stays_below d_stays_below
  b_stays_below : Binds K d_stays_below ["store", "weights"] []
  g_stays_below : mg "stays_below" = some (.ref a_stays_below)
  a__law_due : Addr
  d__law_due : FuncData
  F__law_due : Fun K "_law_due" "_law_due" s__law_due a__law_due d__law_due
  b__law_due : Binds K d__law_due ["flats", "lot", "other"] []
  g__law_due : mg "_law_due" = some (.ref a__law_due)
  a__law_right : Addr
  d__law_right : FuncData
  F__law_right : Fun K "_law_right" "_law_right" s__law_right a__law_right d__law_right
  b__law_right : Binds K d__law_right ["pot"] []
  g__law_right : mg "_law_right" = some (.ref a__law_right)
  a__law_pot : Addr
  d__law_pot : FuncData
  F__law_pot : Fun K "_law_pot" "_law_pot" s__law_pot a__law_pot d__law_pot
  b__law_pot : Binds K d__law_pot ["script", "k"] []
  g__law_pot : mg "_law_pot" = some (.ref a__law_pot)
  a_law : Addr
  d_law : FuncData
  F_law : Fun K "law" "law" s_law a_law d_law
  b_law : Binds K d_law ["script"] []
  g_law : mg "law" = some (.ref a_law)
  C_Store : Addr
  g_Store : mg "Store" = some (.ref C_Store)
  mk_Store : Mk K C_Store a_Store_init
  cl_Store : Cls K C_Store
  no_Store_own_shelves : NoAttr K C_Store "own_shelves"
  no_Store_own_deliveries : NoAttr K C_Store "own_deliveries"
  no_Store_own_sales : NoAttr K C_Store "own_sales"
  no_Store_own_kept : NoAttr K C_Store "own_kept"
  is_Store : PySem.W.findIn K (.ref C_Store) "__class__" = some (some (.builtin "object.__class__")) ∧ PySem.W.specialIn K (.builtin "object.__class__") "__get__" = some (some (.builtin "getset_descriptor.__get__")) ∧ PySem.W.takesIn K (.builtin "object.__class__") = some true ∧ PySem.W.mroIn K C_Store (.type "object") = some true
  t_LEAST_SHELVES : Tok
  g_LEAST_SHELVES : mg "LEAST_SHELVES" = some (.int 2 t_LEAST_SHELVES)
  t_MOST_KINDS : Tok
  g_MOST_KINDS : mg "MOST_KINDS" = some (.int 8 t_MOST_KINDS)
  t_MOST_SHELVES : Tok
  g_MOST_SHELVES : mg "MOST_SHELVES" = some (.int 8 t_MOST_SHELVES)
  z_abs : mg "abs" = none
  z_all : mg "all" = none
  z_any : mg "any" = none
  z_bool : mg "bool" = none
  z_divmod : mg "divmod" = none
  z_enumerate : mg "enumerate" = none
  z_int : mg "int" = none
  z_isinstance : mg "isinstance" = none
  z_len : mg "len" = none
  z_list : mg "list" = none
  z_max : mg "max" = none
  z_range : mg "range" = none
  z_repr : mg "repr" = none
  z_set : mg "set" = none
  z_sorted : mg "sorted" = none
  z_sum : mg "sum" = none
  z_tuple : mg "tuple" = none
  kb0 : KB K d_never_more ["store", "lot", "other"] ["other", "lot", "store"] 0 [2, 1, 0]
section
variable {P : Program} {w : World} {K : PySem.W.Frag} {mg : Str → Option Value} {base : Heap}
theorem Tx.cf_Store_own_shelves (T : Tx K mg) {X : Cx} (hK : X.K = K := by rfl) (hm : X.mg = mg := by rfl) : ClsF X "Store" "own_shelves" := by
  subst hK hm
  exact ⟨fun C h => by rw [T.g_Store] at h; cases h; exact T.cl_Store, fun C h => by rw [T.g_Store] at h; cases h; exact T.no_Store_own_shelves⟩
theorem Tx.cf_Store_own_deliveries (T : Tx K mg) {X : Cx} (hK : X.K = K := by rfl) (hm : X.mg = mg := by rfl) : ClsF X "Store" "own_deliveries" := by
  subst hK hm
  exact ⟨fun C h => by rw [T.g_Store] at h; cases h; exact T.cl_Store, fun C h => by rw [T.g_Store] at h; cases h; exact T.no_Store_own_deliveries⟩
theorem Tx.cf_Store_own_sales (T : Tx K mg) {X : Cx} (hK : X.K = K := by rfl) (hm : X.mg = mg := by rfl) : ClsF X "Store" "own_sales" := by
  subst hK hm
  exact ⟨fun C h => by rw [T.g_Store] at h; cases h; exact T.cl_Store, fun C h => by rw [T.g_Store] at h; cases h; exact T.no_Store_own_sales⟩
theorem Tx.cf_Store_own_kept (T : Tx K mg) {X : Cx} (hK : X.K = K := by rfl) (hm : X.mg = mg := by rfl) : ClsF X "Store" "own_kept" := by
  subst hK hm
  exact ⟨fun C h => by rw [T.g_Store] at h; cases h; exact T.cl_Store, fun C h => by rw [T.g_Store] at h; cases h; exact T.no_Store_own_kept⟩
theorem Tx.ci_Store (T : Tx K mg) {X : Cx} (hK : X.K = K := by rfl) (hm : X.mg = mg := by rfl) : ClsI X "Store" := by
  subst hK hm
  exact ⟨fun C h => by rw [T.g_Store] at h; cases h; exact ⟨T.cl_Store, T.is_Store⟩⟩
theorem m__law_draw (T : Tx K mg) : FnM P w K mg base 1 T.a__law_draw T.d__law_draw ["pot", "size"] f__law_draw := by
  refine fnM_of T.F__law_draw sc__law_draw fun cdv A outer s H E hg hr => ?_
  have h64 := hr.units
  have h65 := room65 hr
  have h66 := room66 hr
  exact (okCons (okIfS (okT_cmpX so_gt (okIxX (okv 0) okInt) okInt) (okCons (okAsgG (okCallBX sc_divmod (by rfl) T.z_divmod PyProof.Rows.boot_divmod (okA_cons (okIxX (okv 0) okInt) (okA_cons (okv 1) okA_nil))) (okG_tup rfl (okGs_cons (okG_ix (okv 0) okInt) (okGs_cons (okgn 2 sc__law_draw.nd) okGs_nil))))
  (okLast (okRet (okv 2)))) okNil)
  (okCons (okAsgG (okOpX so_mod (okCallTyX sc_int (by rfl) T.z_int boot_int' (okA_cons (okOpX so_add (okOpX so_mul (okIxX (okv 0) okInt) okInt) okInt) okA_nil)) okInt) (okG_ix (okv 0) okInt))
  (okLast (okRet (okOpX so_mod (okCallTyX sc_int (by rfl) T.z_int boot_int' (okA_cons (okOpX so_div (okOpX so_mod (okCallTyX sc_int (by rfl) T.z_int boot_int' (okA_cons (okOpX so_mul (okIxX (okv 0) okInt) (okIxX (okv 0) okInt)) okA_nil)) okInt) okInt) okA_nil)) (okv 1))))))
theorem m__law_kind (T : Tx K mg) : FnM P w K mg base 2 T.a__law_kind T.d__law_kind ["pot", "shelves"] f__law_kind := by
  refine fnM_of T.F__law_kind sc__law_kind fun cdv A outer s H E hg hr => ?_
  have h64 := hr.units
  have h65 := room65 hr
  have h66 := room66 hr
  exact (okCons (okset 2 true sc__law_kind.nd (okLst (okA_cons ((okCall (m__law_draw T) ctx_body hg (hr.mono (by decide)) (by rfl) T.g__law_draw T.F__law_draw.kp T.b__law_draw (okA_cons (okv 0) (okA_cons (okv 1) okA_nil)))).hrd okA_nil)))
  (okCons (okFor own_body rfl (okI_range1 (by rfl) T.z_range (okA_cons (okCall (m__law_draw T) ctx_body hg (hr.mono (by decide)) (by rfl) T.g__law_draw T.F__law_draw.kp T.b__law_draw (okA_cons (okv 0) (okA_cons okInt okA_nil))) okA_nil)) (okgn 3 sc__law_kind.nd) (okCons (okset 4 false sc__law_kind.nd ((okCall (m__law_draw T) ctx_body hg (hr.mono (by decide)) (by rfl) T.g__law_draw T.F__law_draw.kp T.b__law_draw (okA_cons (okv 0) (okA_cons (okv 1) okA_nil)))).hrd)
  (okLast (okIfS (okT_cmpX (so_notInT h65) (okv 4) (okv 2)) (okLast (okExpr (okappend (okv 2) (okA_cons (okv 4) okA_nil)))) okNil))) (nmG_nx 3))
  (okLast (okRet (okv 2)))))
theorem m__law_world (T : Tx K mg) : FnM P w K mg base 3 T.a__law_world T.d__law_world ["pot", "most"] f__law_world := by
  refine fnM_of T.F__law_world sc__law_world fun cdv A outer s H E hg hr => ?_
  have h64 := hr.units
  have h65 := room65 hr
  have h66 := room66 hr
  exact (okCons (okPar3 (i := 2) (j := 3) (l := 4) (o1 := false) (o2 := true) (o3 := true) rfl sc__law_world.nd rfl rfl rfl (by decide) (by decide) (by decide) rfl rfl rfl (okA_cons ((okOpX so_add okInt (okCall (m__law_draw T) ctx_body hg (hr.mono (by decide)) (by rfl) T.g__law_draw T.F__law_draw.kp T.b__law_draw (okA_cons (okv 0) (okA_cons (okOpX so_sub (okv 1) okInt) okA_nil))))).hrd (okA_cons (okLst okA_nil) (okA_cons (okLst okA_nil) okA_nil))) (by rfl))
  (okCons (okFor own_body rfl (okI_range1 (by rfl) T.z_range (okA_cons (okCall (m__law_draw T) ctx_body hg (hr.mono (by decide)) (by rfl) T.g__law_draw T.F__law_draw.kp T.b__law_draw (okA_cons (okv 0) (okA_cons okInt okA_nil))) okA_nil)) (okgn 5 sc__law_world.nd) (okLast (okExpr (okappend (okv 3) (okA_cons ((okCall (m__law_kind T) ctx_body hg (hr.mono (by decide)) (by rfl) T.g__law_kind T.F__law_kind.kp T.b__law_kind (okA_cons (okv 0) (okA_cons (okv 2) okA_nil)))).hrd okA_nil)))) (nmG_nx 5))
  (okCons (okFor own_body rfl (okI_range1 (by rfl) T.z_range (okA_cons (okCall (m__law_draw T) ctx_body hg (hr.mono (by decide)) (by rfl) T.g__law_draw T.F__law_draw.kp T.b__law_draw (okA_cons (okv 0) (okA_cons okInt okA_nil))) okA_nil)) (okgn 5 sc__law_world.nd) (okLast (okExpr (okappend (okv 4) (okA_cons ((okCall (m__law_kind T) ctx_body hg (hr.mono (by decide)) (by rfl) T.g__law_kind T.F__law_kind.kp T.b__law_kind (okA_cons (okv 0) (okA_cons (okv 2) okA_nil)))).hrd okA_nil)))) (nmG_nx 5))
  (okCons (okIfS ((okW_and (okT_cmpX (so_ne h64) (okv 3) (okLst okA_nil)) (okW_and1 (okT_cmpX (so_eq h64) (okCall (m__law_draw T) ctx_body hg (hr.mono (by decide)) (by rfl) T.g__law_draw T.F__law_draw.kp T.b__law_draw (okA_cons (okv 0) (okA_cons okInt okA_nil))) okInt)))).t (okLast (okExpr (okappend (okv 4) (okA_cons ((okCallTyX sc_list (by rfl) T.z_list boot_list' (okA_cons (okIxX (okv 3) okInt) okA_nil))).hrd okA_nil)))) okNil)
  (okFz 4 (okFz 3 (okLast (okRet (okTup (okA_cons (okv 2) (okA_cons (okv 3) (okA_cons (okv 4) okA_nil))))))))))))
theorem m_is_integer (T : Tx K mg) : FnM P w K mg base 1 T.a_is_integer T.d_is_integer ["value"] f_is_integer := by
  refine fnM_of T.F_is_integer sc_is_integer fun cdv A outer s H E hg hr => ?_
  have h64 := hr.units
  have h65 := room65 hr
  have h66 := room66 hr
  exact (okLast (okRet (okAnd (okIsi (by rfl) T.z_isinstance (okv 0) (pty (by rfl) T.z_int boot_int') ta_int) (okOne (okNot (okIsi (by rfl) T.z_isinstance (okv 0) (pty (by rfl) T.z_bool boot_bool') ta_bool))))))
theorem m_is_count (T : Tx K mg) : FnM P w K mg base 2 T.a_is_count T.d_is_count ["value"] f_is_count := by
  refine fnM_of T.F_is_count sc_is_count fun cdv A outer s H E hg hr => ?_
  have h64 := hr.units
  have h65 := room65 hr
  have h66 := room66 hr
  exact (okLast (okRet (okAnd (okCall (m_is_integer T) ctx_body hg (hr.mono (by decide)) (by rfl) T.g_is_integer T.F_is_integer.kp T.b_is_integer (okA_cons (okv 0) okA_nil)) (okOne (okCmpX so_ge (okv 0) okInt)))))
theorem m_are_shelves (T : Tx K mg) : FnM P w K mg base 3 T.a_are_shelves T.d_are_shelves ["value"] f_are_shelves := by
  refine fnM_of T.F_are_shelves sc_are_shelves fun cdv A outer s H E hg hr => ?_
  have h64 := hr.units
  have h65 := room65 hr
  have h66 := room66 hr
  exact (okLast (okRet (okAnd (okCall (m_is_count T) ctx_body hg (hr.mono (by decide)) (by rfl) T.g_is_count T.F_is_count.kp T.b_is_count (okA_cons (okv 0) okA_nil)) (okOne (okChainX so_le so_le (okGlobInt (by rfl) T.g_LEAST_SHELVES) (okv 0) (okGlobInt (by rfl) T.g_MOST_SHELVES))))))
theorem m_want_shelves (T : Tx K mg) : FnM P w K mg base 4 T.a_want_shelves T.d_want_shelves ["value"] f_want_shelves := by
  refine fnM_of T.F_want_shelves sc_want_shelves fun cdv A outer s H E hg hr => ?_
  have h64 := hr.units
  have h65 := room65 hr
  have h66 := room66 hr
  exact (okLast (okIfS (okT_not (okt (okCall (m_are_shelves T) ctx_body hg (hr.mono (by decide)) (by rfl) T.g_are_shelves T.F_are_shelves.kp T.b_are_shelves (okA_cons (okv 0) okA_nil)))) (okLast okNever) okNil))
theorem m_bits_of (T : Tx K mg) : FnM P w K mg base 1 T.a_bits_of T.d_bits_of ["lot"] f_bits_of := by
  refine fnM_of T.F_bits_of sc_bits_of fun cdv A outer s H E hg hr => ?_
  have h64 := hr.units
  have h65 := room65 hr
  have h66 := room66 hr
  exact (okCons (okset 1 false sc_bits_of.nd okInt)
  (okCons (okFor own_body rfl (okI_seq (okv 0)) (okgn 2 sc_bits_of.nd) (okLast (okset 1 false sc_bits_of.nd (okOpX so_or (okv 1) (okOpX so_shl okInt (okv 2))))) (nmG_nx 2))
  (okLast (okRet (okv 1)))))
theorem m_spots_of (T : Tx K mg) : FnM P w K mg base 1 T.a_spots_of T.d_spots_of ["bits"] f_spots_of := by
  refine fnM_of T.F_spots_of sc_spots_of fun cdv A outer s H E hg hr => ?_
  have h64 := hr.units
  have h65 := room65 hr
  have h66 := room66 hr
  exact (okLast (okRet (okCallTyX sc_tuple (by rfl) T.z_tuple boot_tuple' (okA_cons (oklc [(("shelf" : Str), 1)] rfl sc_spots_of.nd (okI_range1 (by rfl) T.z_range (okA_cons (okGlobInt (by rfl) T.g_MOST_SHELVES) okA_nil)) (fun _ _ _ _ _ => (okcn 1 sc_spots_of.nd)) (fun _ _ _ _ _ => (okTs_one (okT_cmpX (so_eq h64) (okOpX so_and (okOpX so_shr (okv 0) (okv 1)) okInt) okInt))) (fun _ _ _ _ _ => (okv 1))) okA_nil))))
theorem m_told_lot (T : Tx K mg) : FnM P w K mg base 2 T.a_told_lot T.d_told_lot ["bits"] f_told_lot := by
  refine fnM_of T.F_told_lot sc_told_lot fun cdv A outer s H E hg hr => ?_
  have h64 := hr.units
  have h65 := room65 hr
  have h66 := room66 hr
  exact (okLast (okRet (okCallTyX sc_list (by rfl) T.z_list boot_list' (okA_cons (okCall (m_spots_of T) ctx_body hg (hr.mono (by decide)) (by rfl) T.g_spots_of T.F_spots_of.kp T.b_spots_of (okA_cons (okv 0) okA_nil)) okA_nil))))
theorem m_plain_kinds (T : Tx K mg) : FnM P w K mg base 3 T.a_plain_kinds T.d_plain_kinds ["kinds"] f_plain_kinds := by
  refine fnM_of T.F_plain_kinds sc_plain_kinds fun cdv A outer s H E hg hr => ?_
  have h64 := hr.units
  have h65 := room65 hr
  have h66 := room66 hr
  exact (okLast (okRet (okCallTyX sc_tuple (by rfl) T.z_tuple boot_tuple' (okA_cons (oklc [(("lot" : Str), 1)] rfl sc_plain_kinds.nd (okI_seq ((okCallBX (sc_sorted2 h64) (by rfl) T.z_sorted PyProof.Rows.boot_sorted (okA_cons (oklc [(("bits" : Str), 2)] rfl sc_plain_kinds.nd (okI_seq ((okSortSet rfl (by rfl) T.z_sorted (by rfl) T.z_set (okA_cons (okv 0) okA_nil))).hrd) (fun _ _ _ _ _ => (okcn 2 sc_plain_kinds.nd)) (fun _ _ _ _ _ => okTs_nil) (fun _ _ _ _ _ => ((okCall (m_told_lot T) ctx_WF hg (hr.mono (by decide)) (by rfl) T.g_told_lot T.F_told_lot.kp T.b_told_lot (okA_cons (okv 2) okA_nil))).hrd)) okA_nil))).hrd) (fun _ _ _ _ _ => (okcn 1 sc_plain_kinds.nd)) (fun _ _ _ _ _ => okTs_nil) (fun _ _ _ _ _ => ((okCall (m_bits_of T) ctx_WF hg (hr.mono (by decide)) (by rfl) T.g_bits_of T.F_bits_of.kp T.b_bits_of (okA_cons (okv 1) okA_nil))).hrd)) okA_nil))))
theorem m_is_list (T : Tx K mg) : FnM P w K mg base 1 T.a_is_list T.d_is_list ["value"] f_is_list := by
  refine fnM_of T.F_is_list sc_is_list fun cdv A outer s H E hg hr => ?_
  have h64 := hr.units
  have h65 := room65 hr
  have h66 := room66 hr
  exact (okLast (okRet (okIsiT (by rfl) T.z_isinstance (okv 0) (.cons (pty (by rfl) T.z_list boot_list') ta_list (by rfl) (.cons (pty (by rfl) T.z_tuple boot_tuple') ta_tuple (by rfl) .nil)))))
theorem m_is_lot_of (T : Tx K mg) : FnM P w K mg base 3 T.a_is_lot_of T.d_is_lot_of ["shelves", "value"] f_is_lot_of := by
  refine fnM_of T.F_is_lot_of sc_is_lot_of fun cdv A outer s H E hg hr => ?_
  have h64 := hr.units
  have h65 := room65 hr
  have h66 := room66 hr
  exact (okCons (okIfS ((okW_or (okT_not (okt (okCall (m_is_list T) ctx_body hg (hr.mono (by decide)) (by rfl) T.g_is_list T.F_is_list.kp T.b_is_list (okA_cons (okv 1) okA_nil)))) (okW_or1 (okT_not (okt (okCallBX (sc_all rfl) (by rfl) T.z_all PyProof.Rows.boot_all (okA_cons (oklc [(("shelf" : Str), 2)] rfl sc_is_lot_of.nd (okI_seq (okv 1)) (fun _ _ _ _ _ => (okcn 2 sc_is_lot_of.nd)) (fun _ _ _ _ _ => okTs_nil) (fun _ _ _ _ _ => (okAnd (okCall (m_is_count T) ctx_WF hg (hr.mono (by decide)) (by rfl) T.g_is_count T.F_is_count.kp T.b_is_count (okA_cons (okv 2) okA_nil)) (okOne (okCmpX so_lt (okv 2) (okv 0)))))) okA_nil))))))).t (okLast (okRet okBool)) okNil)
  (okLast (okRet (okCmpX (so_eq h64) (okCallBX sc_len (by rfl) T.z_len boot_len (okA_cons (okSortSet rfl (by rfl) T.z_sorted (by rfl) T.z_set (okA_cons (okv 1) okA_nil)) okA_nil)) (okCallBX sc_len (by rfl) T.z_len boot_len (okA_cons (okv 1) okA_nil))))))
theorem m_is_kind (T : Tx K mg) : FnM P w K mg base 4 T.a_is_kind T.d_is_kind ["shelves", "value"] f_is_kind := by
  refine fnM_of T.F_is_kind sc_is_kind fun cdv A outer s H E hg hr => ?_
  have h64 := hr.units
  have h65 := room65 hr
  have h66 := room66 hr
  exact (okLast (okRet (okAnd (okCall (m_is_lot_of T) ctx_body hg (hr.mono (by decide)) (by rfl) T.g_is_lot_of T.F_is_lot_of.kp T.b_is_lot_of (okA_cons (okv 0) (okA_cons (okv 1) okA_nil))) (okOne (okCmpX so_gt (okCallBX sc_len (by rfl) T.z_len boot_len (okA_cons (okv 1) okA_nil)) okInt)))))
theorem m_are_kinds (T : Tx K mg) : FnM P w K mg base 5 T.a_are_kinds T.d_are_kinds ["shelves", "value"] f_are_kinds := by
  refine fnM_of T.F_are_kinds sc_are_kinds fun cdv A outer s H E hg hr => ?_
  have h64 := hr.units
  have h65 := room65 hr
  have h66 := room66 hr
  exact (okLast (okRet (okAnd (okCall (m_is_list T) ctx_body hg (hr.mono (by decide)) (by rfl) T.g_is_list T.F_is_list.kp T.b_is_list (okA_cons (okv 1) okA_nil)) (okAnd (okCmpX so_le (okCallBX sc_len (by rfl) T.z_len boot_len (okA_cons (okv 1) okA_nil)) (okGlobInt (by rfl) T.g_MOST_KINDS)) (okOne (okCallBX (sc_all rfl) (by rfl) T.z_all PyProof.Rows.boot_all (okA_cons (oklc [(("one" : Str), 2)] rfl sc_are_kinds.nd (okI_seq (okv 1)) (fun _ _ _ _ _ => (okcn 2 sc_are_kinds.nd)) (fun _ _ _ _ _ => okTs_nil) (fun _ _ _ _ _ => ((okCall (m_is_kind T) ctx_WF hg (hr.mono (by decide)) (by rfl) T.g_is_kind T.F_is_kind.kp T.b_is_kind (okA_cons (okv 0) (okA_cons (okv 2) okA_nil)))).hrd)) okA_nil)))))))
theorem m_Store_init (T : Tx K mg) : FnM P w K mg base 6 T.a_Store_init T.d_Store_init ["self", "shelves", "deliveries", "sales"] f_Store_init := by
  refine fnM_of T.F_Store_init sc_Store_init fun cdv A outer s H E hg hr => ?_
  have h64 := hr.units
  have h65 := room65 hr
  have h66 := room66 hr
  exact (okCons (okExpr (okCall (m_want_shelves T) ctx_body hg (hr.mono (by decide)) (by rfl) T.g_want_shelves T.F_want_shelves.kp T.b_want_shelves (okA_cons (okv 1) okA_nil)))
  (okCons (okIfS (okT_not (okt (okCall (m_are_kinds T) ctx_body hg (hr.mono (by decide)) (by rfl) T.g_are_kinds T.F_are_kinds.kp T.b_are_kinds (okA_cons (okv 1) (okA_cons (okv 2) okA_nil))))) (okLast okNever) okNil)
  (okCons (okIfS (okT_not (okt (okCall (m_are_kinds T) ctx_body hg (hr.mono (by decide)) (by rfl) T.g_are_kinds T.F_are_kinds.kp T.b_are_kinds (okA_cons (okv 1) (okA_cons (okv 3) okA_nil))))) (okLast okNever) okNil)
  (okCons (okSetF T.cf_Store_own_shelves (okv 0) (okv 1))
  (okCons (okSetF T.cf_Store_own_deliveries (okv 0) ((okCall (m_plain_kinds T) ctx_body hg (hr.mono (by decide)) (by rfl) T.g_plain_kinds T.F_plain_kinds.kp T.b_plain_kinds (okA_cons ((oklc [(("kind" : Str), 4)] rfl sc_Store_init.nd (okI_seq (okv 2)) (fun _ _ _ _ _ => (okcn 4 sc_Store_init.nd)) (fun _ _ _ _ _ => okTs_nil) (fun _ _ _ _ _ => ((okCall (m_bits_of T) ctx_WF hg (hr.mono (by decide)) (by rfl) T.g_bits_of T.F_bits_of.kp T.b_bits_of (okA_cons (okv 4) okA_nil))).hrd))).hrd okA_nil))).hrd)
  (okCons (okSetF T.cf_Store_own_sales (okv 0) ((okCall (m_plain_kinds T) ctx_body hg (hr.mono (by decide)) (by rfl) T.g_plain_kinds T.F_plain_kinds.kp T.b_plain_kinds (okA_cons ((oklc [(("kind" : Str), 4)] rfl sc_Store_init.nd (okI_seq (okv 3)) (fun _ _ _ _ _ => (okcn 4 sc_Store_init.nd)) (fun _ _ _ _ _ => okTs_nil) (fun _ _ _ _ _ => ((okCall (m_bits_of T) ctx_WF hg (hr.mono (by decide)) (by rfl) T.g_bits_of T.F_bits_of.kp T.b_bits_of (okA_cons (okv 4) okA_nil))).hrd))).hrd okA_nil))).hrd)
  (okLast (okSetK T.cf_Store_own_kept (okv 0)))))))))
theorem m__law_store (T : Tx K mg) : FnM P w K mg base 8 T.a__law_store T.d__law_store ["world"] f__law_store := by
  refine fnM_of T.F__law_store sc__law_store fun cdv A outer s H E hg hr => ?_
  have h64 := hr.units
  have h65 := room65 hr
  have h66 := room66 hr
  exact (okLast (okRet (okMake T.mk_Store (m_Store_init T) ctx_body hg (hr.mono (by decide)) (by rfl) T.g_Store (bm_mk T.b_Store_init) (okA_cons (okIxX (okv 0) okInt) (okA_cons (okIxX (okv 0) okInt) (okA_cons (okIxX (okv 0) okInt) okA_nil))))))
theorem m__law_steps (T : Tx K mg) : FnM P w K mg base 1 T.a__law_steps T.d__law_steps ["plain"] f__law_steps := by
  refine fnM_of T.F__law_steps sc__law_steps fun cdv A outer s H E hg hr => ?_
  have h64 := hr.units
  have h65 := room65 hr
  have h66 := room66 hr
  exact (okLast (okRet (okOpX so_add (oklc [(("at" : Str), 1)] rfl sc__law_steps.nd (okI_range1 (by rfl) T.z_range (okA_cons (okCallBX sc_len (by rfl) T.z_len boot_len (okA_cons (okIxX (okv 0) okInt) okA_nil)) okA_nil)) (fun _ _ _ _ _ => (okcn 1 sc__law_steps.nd)) (fun _ _ _ _ _ => okTs_nil) (fun _ _ _ _ _ => (okTup (okA_cons okStr (okA_cons (okv 1) okA_nil))))) (oklc [(("at" : Str), 1)] rfl sc__law_steps.nd (okI_range1 (by rfl) T.z_range (okA_cons (okCallBX sc_len (by rfl) T.z_len boot_len (okA_cons (okIxX (okv 0) okInt) okA_nil)) okA_nil)) (fun _ _ _ _ _ => (okcn 1 sc__law_steps.nd)) (fun _ _ _ _ _ => okTs_nil) (fun _ _ _ _ _ => (okTup (okA_cons okStr (okA_cons (okv 1) okA_nil))))))))
theorem m__law_led (T : Tx K mg) : FnM P w K mg base 1 T.a__law_led T.d__law_led ["plain", "lot", "step"] f__law_led := by
  refine fnM_of T.F__law_led sc__law_led fun cdv A outer s H E hg hr => ?_
  have h64 := hr.units
  have h65 := room65 hr
  have h66 := room66 hr
  exact (okCons (okIfS (okT_cmpX (so_eq h64) (okIxX (okv 2) okInt) okStr) (okLast (okRet (okCallBX (sc_sorted2 h64) (by rfl) T.z_sorted PyProof.Rows.boot_sorted (okA_cons (okOpX so_add (okv 1) (oklc [(("shelf" : Str), 3)] rfl sc__law_led.nd (okI_seq (okIxX (okIxX (okv 0) okInt) (okIxX (okv 2) okInt))) (fun _ _ _ _ _ => (okcn 3 sc__law_led.nd)) (fun _ _ _ _ _ => (okTs_one (okT_cmpX (so_notInT h65) (okv 3) (okv 1)))) (fun _ _ _ _ _ => (okv 3)))) okA_nil)))) okNil)
  (okLast (okRet (oklc [(("shelf" : Str), 3)] rfl sc__law_led.nd (okI_seq (okv 1)) (fun _ _ _ _ _ => (okcn 3 sc__law_led.nd)) (fun _ _ _ _ _ => (okTs_one (okT_cmpX (so_notInT h65) (okv 3) (okIxX (okIxX (okv 0) okInt) (okIxX (okv 2) okInt))))) (fun _ _ _ _ _ => (okv 3))))))
theorem m__law_flats (T : Tx K mg) : FnM P w K mg base 2 T.a__law_flats T.d__law_flats ["plain"] f__law_flats := by
  refine fnM_of T.F__law_flats sc__law_flats fun cdv A outer s H E hg hr => ?_
  have h64 := hr.units
  have h65 := room65 hr
  have h66 := room66 hr
  exact (okCons (okPar3 (i := 1) (j := 2) (l := 3) (o1 := true) (o2 := false) (o3 := false) rfl sc__law_flats.nd rfl rfl rfl (by decide) (by decide) (by decide) rfl rfl rfl (okA_cons (okLst (okA_cons ((okLst okA_nil)).hrd okA_nil)) (okA_cons okInt (okA_cons ((okCall (m__law_steps T) ctx_body hg (hr.mono (by decide)) (by rfl) T.g__law_steps T.F__law_steps.kp T.b__law_steps (okA_cons (okv 0) okA_nil))).hrd okA_nil))) (by rfl))
  (okCons (okWhile fuel own_body (okT_cmpX so_lt (okv 2) (okCallBX sc_len (by rfl) T.z_len boot_len (okA_cons (okv 1) okA_nil))) (okCons (okFor own_body rfl (okI_seq (okv 3)) (okgn 4 sc__law_flats.nd) (okCons (okset 5 false sc__law_flats.nd ((okCall (m__law_led T) ctx_body hg (hr.mono (by decide)) (by rfl) T.g__law_led T.F__law_led.kp T.b__law_led (okA_cons (okv 0) (okA_cons (okIxX (okv 1) (okv 2)) (okA_cons (okv 4) okA_nil))))).hrd)
  (okLast (okIfS (okT_cmpX (so_notInT h65) (okv 5) (okv 1)) (okLast (okExpr (okappend (okv 1) (okA_cons (okv 5) okA_nil)))) okNil))) (nmG_nx 4))
  (okLast (okset 2 false sc__law_flats.nd ((okOpX so_add (okv 2) okInt)).hrd))))
  (okLast (okRet (okCallBX (sc_sorted2 h64) (by rfl) T.z_sorted PyProof.Rows.boot_sorted (okA_cons (okv 1) okA_nil))))))
theorem m__law_order (T : Tx K mg) : FnM P w K mg base 2 T.a__law_order T.d__law_order ["pot", "many"] f__law_order := by
  refine fnM_of T.F__law_order sc__law_order fun cdv A outer s H E hg hr => ?_
  have h64 := hr.units
  have h65 := room65 hr
  have h66 := room66 hr
  exact (okCons (okPar (i := 2) (j := 3) (o1 := true) (o2 := true) rfl sc__law_order.nd rfl rfl (by decide) rfl rfl (okA_cons (okListR1 rfl (by rfl) T.z_list (by rfl) T.z_range (okv 1)) (okA_cons (okLst okA_nil) okA_nil)) (by rfl))
  (okCons (okFor own_body rfl (okI_range1 (by rfl) T.z_range (okA_cons (okv 1) okA_nil)) (okgn 4 sc__law_order.nd) (okLast (okExpr (okappend (okv 3) (okA_cons (okpopAt (okv 2) (okA_cons (okCall (m__law_draw T) ctx_body hg (hr.mono (by decide)) (by rfl) T.g__law_draw T.F__law_draw.kp T.b__law_draw (okA_cons (okv 0) (okA_cons (okCallBX sc_len (by rfl) T.z_len boot_len (okA_cons (okv 2) okA_nil)) okA_nil))) okA_nil)) okA_nil)))) (nmG_nx 4))
  (okLast (okRet (okv 3)))))
theorem m__law_lot (T : Tx K mg) : FnM P w K mg base 3 T.a__law_lot T.d__law_lot ["pot", "many"] f__law_lot := by
  refine fnM_of T.F__law_lot sc__law_lot fun cdv A outer s H E hg hr => ?_
  have h64 := hr.units
  have h65 := room65 hr
  have h66 := room66 hr
  exact (okLast (okRet (okSlice (oklc [(("shelf" : Str), 2)] rfl sc__law_lot.nd (okI_seq ((okCall (m__law_order T) ctx_body hg (hr.mono (by decide)) (by rfl) T.g__law_order T.F__law_order.kp T.b__law_order (okA_cons (okv 0) (okA_cons (okv 1) okA_nil)))).hrd) (fun _ _ _ _ _ => (okcn 2 sc__law_lot.nd)) (fun _ _ _ _ _ => okTs_nil) (fun _ _ _ _ _ => (okv 2))) okO_none (okO_some (okCall (m__law_draw T) ctx_body hg (hr.mono (by decide)) (by rfl) T.g__law_draw T.F__law_draw.kp T.b__law_draw (okA_cons (okv 0) (okA_cons ((okOpX so_add (okv 1) okInt)).hrd okA_nil)))))))
theorem m__law_told (T : Tx K mg) : FnM P w K mg base 1 T.a__law_told T.d__law_told ["kinds"] f__law_told := by
  refine fnM_of T.F__law_told sc__law_told fun cdv A outer s H E hg hr => ?_
  have h64 := hr.units
  have h65 := room65 hr
  have h66 := room66 hr
  exact (okCons (okset 1 true sc__law_told.nd (okLst okA_nil))
  (okCons (okFor own_body rfl (okI_seq ((okCallBX (sc_sorted2 h64) (by rfl) T.z_sorted PyProof.Rows.boot_sorted (okA_cons (oklc [(("one" : Str), 3)] rfl sc__law_told.nd (okI_seq (okv 0)) (fun _ _ _ _ _ => (okcn 3 sc__law_told.nd)) (fun _ _ _ _ _ => okTs_nil) (fun _ _ _ _ _ => ((okCallBX (sc_sorted2 h64) (by rfl) T.z_sorted PyProof.Rows.boot_sorted (okA_cons (okv 3) okA_nil))).hrd)) okA_nil))).hrd) (okgn 2 sc__law_told.nd) (okLast (okIfS (okT_cmpX (so_notInT h65) (okv 2) (okv 1)) (okLast (okExpr (okappend (okv 1) (okA_cons (okv 2) okA_nil)))) okNil)) (nmG_nx 2))
  (okLast (okRet (okv 1)))))
theorem m__law_plain (T : Tx K mg) : FnM P w K mg base 2 T.a__law_plain T.d__law_plain ["world"] f__law_plain := by
  refine fnM_of T.F__law_plain sc__law_plain fun cdv A outer s H E hg hr => ?_
  have h64 := hr.units
  have h65 := room65 hr
  have h66 := room66 hr
  exact (okLast (okRet (okTup (okA_cons (okIxX (okv 0) okInt) (okA_cons ((okCall (m__law_told T) ctx_body hg (hr.mono (by decide)) (by rfl) T.g__law_told T.F__law_told.kp T.b__law_told (okA_cons (okIxX (okv 0) okInt) okA_nil))).hrd (okA_cons ((okCall (m__law_told T) ctx_body hg (hr.mono (by decide)) (by rfl) T.g__law_told T.F__law_told.kp T.b__law_told (okA_cons (okIxX (okv 0) okInt) okA_nil))).hrd okA_nil))))))
theorem m_want_store (T : Tx K mg) : FnM P w K mg base 1 T.a_want_store T.d_want_store ["value"] f_want_store := by
  refine fnM_of T.F_want_store sc_want_store fun cdv A outer s H E hg hr => ?_
  have h64 := hr.units
  have h65 := room65 hr
  have h66 := room66 hr
  exact (okCons (okIfS (okT_not (okt (okIso (by rfl) T.z_isinstance (by rfl) T.g_Store T.ci_Store (okv 0)))) (okLast okNever) okNil)
  (okLast (okRet (okv 0))))
theorem m_want_lot (T : Tx K mg) : FnM P w K mg base 4 T.a_want_lot T.d_want_lot ["shelves", "value"] f_want_lot := by
  refine fnM_of T.F_want_lot sc_want_lot fun cdv A outer s H E hg hr => ?_
  have h64 := hr.units
  have h65 := room65 hr
  have h66 := room66 hr
  exact (okCons (okIfS (okT_not (okt (okCall (m_is_lot_of T) ctx_body hg (hr.mono (by decide)) (by rfl) T.g_is_lot_of T.F_is_lot_of.kp T.b_is_lot_of (okA_cons (okv 0) (okA_cons (okv 1) okA_nil))))) (okLast okNever) okNil)
  (okLast (okRet (okCall (m_bits_of T) ctx_body hg (hr.mono (by decide)) (by rfl) T.g_bits_of T.F_bits_of.kp T.b_bits_of (okA_cons (okv 1) okA_nil)))))
theorem m_want_lot_of (T : Tx K mg) : FnM P w K mg base 5 T.a_want_lot_of T.d_want_lot_of ["store", "value"] f_want_lot_of := by
  refine fnM_of T.F_want_lot_of sc_want_lot_of fun cdv A outer s H E hg hr => ?_
  have h64 := hr.units
  have h65 := room65 hr
  have h66 := room66 hr
  exact (okLast (okRet (okCall (m_want_lot T) ctx_body hg (hr.mono (by decide)) (by rfl) T.g_want_lot T.F_want_lot.kp T.b_want_lot (okA_cons (okFld T.cf_Store_own_shelves (okv 0)) (okA_cons (okv 1) okA_nil)))))
theorem m_led_on (T : Tx K mg) : FnM P w K mg base 1 T.a_led_on T.d_led_on ["store", "bits"] f_led_on := by
  refine fnM_of T.F_led_on sc_led_on fun cdv A outer s H E hg hr => ?_
  have h64 := hr.units
  have h65 := room65 hr
  have h66 := room66 hr
  exact (okLast (okRet (okOpX so_add (oklc [(("kind" : Str), 2)] rfl sc_led_on.nd (okI_seq (okFld T.cf_Store_own_deliveries (okv 0))) (fun _ _ _ _ _ => (okcn 2 sc_led_on.nd)) (fun _ _ _ _ _ => okTs_nil) (fun _ _ _ _ _ => (okOpX so_or (okv 1) (okv 2)))) (oklc [(("kind" : Str), 2)] rfl sc_led_on.nd (okI_seq (okFld T.cf_Store_own_sales (okv 0))) (fun _ _ _ _ _ => (okcn 2 sc_led_on.nd)) (fun _ _ _ _ _ => okTs_nil) (fun _ _ _ _ _ => (okOpX so_and (okv 1) (okUnX su_inv (okv 2))))))))
theorem m_closed_from (T : Tx K mg) : FnM P w K mg base 2 T.a_closed_from T.d_closed_from ["store", "some"] f_closed_from := by
  refine fnM_of T.F_closed_from sc_closed_from fun cdv A outer s H E hg hr => ?_
  have h64 := hr.units
  have h65 := room65 hr
  have h66 := room66 hr
  exact (okCons (okParT (is := [(2, true), (3, true)]) (n := 2) rfl (okA_cons okdn (okA_cons (okOpX so_add (okLst (okA_cons okInt okA_nil)) (okCallTyX sc_list (by rfl) T.z_list boot_list' (okA_cons (okv 1) okA_nil))) okA_nil)) (pgs_cons (pgn 2 sc_closed_from.nd) (pgs_cons (pgn 3 sc_closed_from.nd) pgs_nil)) rfl)
  (okCons (okWhile fuel own_body (okT_cmpX (so_ne h64) (okv 3) (okLst okA_nil)) (okCons (okset 4 false sc_closed_from.nd (okpop (okv 3)))
  (okLast (okIfS (okT_cmpX (so_kNotIn h65) (okv 4) (okv 2)) (okCons (okAsgG okBool (okG_kx h65 (okv 2) (okv 4)))
  (okLast (okExpr (okextend (okv 3) (okA_cons (oklc [(("one" : Str), 5)] rfl sc_closed_from.nd (okI_seq ((okCall (m_led_on T) ctx_body hg (hr.mono (by decide)) (by rfl) T.g_led_on T.F_led_on.kp T.b_led_on (okA_cons (okv 0) (okA_cons (okv 4) okA_nil)))).hrd) (fun _ _ _ _ _ => (okcn 5 sc_closed_from.nd)) (fun _ _ _ _ _ => (okTs_one (okT_cmpX (so_kNotIn h65) (okv 5) (okv 2)))) (fun _ _ _ _ _ => (okv 5))) okA_nil))))) okNil))))
  (okLast (okRet (okCallTyX (sc_kList rfl) (by rfl) T.z_list boot_list' (okA_cons (okv 2) okA_nil))))))
theorem m_flat_bits (T : Tx K mg) : FnM P w K mg base 3 T.a_flat_bits T.d_flat_bits ["store"] f_flat_bits := by
  refine fnM_of T.F_flat_bits sc_flat_bits fun cdv A outer s H E hg hr => ?_
  have h64 := hr.units
  have h65 := room65 hr
  have h66 := room66 hr
  exact (okKeep (Nat.lt_of_le_of_lt (Nat.add_le_add_left (by decide) _) h65) T.cf_Store_own_kept (by rfl) T.z_list (okCall (m_closed_from T) ctx_body hg (hr.mono (by decide)) (by rfl) T.g_closed_from T.F_closed_from.kp T.b_closed_from (okA_cons (okv 0) (okA_cons ((okLst okA_nil)).hrd okA_nil))))
theorem m_weight_of (T : Tx K mg) : FnM P w K mg base 2 T.a_weight_of T.d_weight_of ["weights", "bits"] f_weight_of := by
  refine fnM_of T.F_weight_of sc_weight_of fun cdv A outer s H E hg hr => ?_
  have h64 := hr.units
  have h65 := room65 hr
  have h66 := room66 hr
  exact (okLast (okRet (okCallBX (sc_sum2 rfl) (by rfl) T.z_sum PyProof.Rows.boot_sum (okA_cons (oklc [(("shelf" : Str), 2)] rfl sc_weight_of.nd (okI_seq ((okCall (m_spots_of T) ctx_body hg (hr.mono (by decide)) (by rfl) T.g_spots_of T.F_spots_of.kp T.b_spots_of (okA_cons (okv 1) okA_nil))).hrd) (fun _ _ _ _ _ => (okcn 2 sc_weight_of.nd)) (fun _ _ _ _ _ => okTs_nil) (fun _ _ _ _ _ => (okIxX (okv 0) (okv 2)))) okA_nil))))
theorem m_rising_bits (T : Tx K mg) : FnM P w K mg base 4 T.a_rising_bits T.d_rising_bits ["store", "weights"] f_rising_bits := by
  refine fnM_of T.F_rising_bits sc_rising_bits fun cdv A outer s H E hg hr => ?_
  have h64 := hr.units
  have h65 := room65 hr
  have h66 := room66 hr
  exact (okCons (okFor own_body rfl (okI_seq ((okCall (m_flat_bits T) ctx_body hg (hr.mono (by decide)) (by rfl) T.g_flat_bits T.F_flat_bits.kp T.b_flat_bits (okA_cons (okv 0) okA_nil))).hrd) (okgn 2 sc_rising_bits.nd) (okLast (okIfS (okT_cmpX so_gt (okCall (m_weight_of T) ctx_body hg (hr.mono (by decide)) (by rfl) T.g_weight_of T.F_weight_of.kp T.b_weight_of (okA_cons (okv 1) (okA_cons (okv 2) okA_nil))) okInt) (okLast (okRet (okv 2))) okNil)) (nmG_nx 2))
  (okLast (okRet okNone)))
theorem m_stays_of (T : Tx K mg) : FnM P w K mg base 5 T.a_stays_of T.d_stays_of ["store", "weights"] f_stays_of := by
  refine fnM_of T.F_stays_of sc_stays_of fun cdv A outer s H E hg hr => ?_
  have h64 := hr.units
  have h65 := room65 hr
  have h66 := room66 hr
  exact (okLast (okRet (okCmpX so_is (okCall (m_rising_bits T) ctx_body hg (hr.mono (by decide)) (by rfl) T.g_rising_bits T.F_rising_bits.kp T.b_rising_bits (okA_cons (okv 0) (okA_cons (okv 1) okA_nil))) okNone)))
theorem m_unlike_weights (T : Tx K mg) : FnM P w K mg base 1 T.a_unlike_weights T.d_unlike_weights ["store", "near", "far"] f_unlike_weights := by
  refine fnM_of T.F_unlike_weights sc_unlike_weights fun cdv A outer s H E hg hr => ?_
  have h64 := hr.units
  have h65 := room65 hr
  have h66 := room66 hr
  exact (okLast (okRet (okCallTyX sc_tuple (by rfl) T.z_tuple boot_tuple' (okA_cons (oklc [(("shelf" : Str), 3)] rfl sc_unlike_weights.nd (okI_range1 (by rfl) T.z_range (okA_cons (okFld T.cf_Store_own_shelves (okv 0)) okA_nil)) (fun _ _ _ _ _ => (okcn 3 sc_unlike_weights.nd)) (fun _ _ _ _ _ => okTs_nil) (fun _ _ _ _ _ => (okOpX so_sub (okOpX so_and (okOpX so_shr (okv 1) (okv 3)) okInt) (okOpX so_and (okOpX so_shr (okv 2) (okv 3)) okInt)))) okA_nil))))
theorem m_never_more (T : Tx K mg) : FnM P w K mg base 6 T.a_never_more T.d_never_more ["store", "lot", "other"] f_never_more := by
  refine fnM_of T.F_never_more sc_never_more fun cdv A outer s H E hg hr => ?_
  have h64 := hr.units
  have h65 := room65 hr
  have h66 := room66 hr
  exact (okCons (okset 3 false sc_never_more.nd ((okCall (m_want_store T) ctx_body hg (hr.mono (by decide)) (by rfl) T.g_want_store T.F_want_store.kp T.b_want_store (okA_cons (okv 0) okA_nil))).hrd)
  (okCons (okset 4 false sc_never_more.nd ((okCall (m_want_lot_of T) ctx_body hg (hr.mono (by decide)) (by rfl) T.g_want_lot_of T.F_want_lot_of.kp T.b_want_lot_of (okA_cons (okv 3) (okA_cons (okv 1) okA_nil)))).hrd)
  (okLast (okRet (okCall (m_stays_of T) ctx_body hg (hr.mono (by decide)) (by rfl) T.g_stays_of T.F_stays_of.kp T.b_stays_of (okA_cons (okv 3) (okA_cons ((okCall (m_unlike_weights T) ctx_body hg (hr.mono (by decide)) (by rfl) T.g_unlike_weights T.F_unlike_weights.kp T.b_unlike_weights (okA_cons (okv 3) (okA_cons (okv 4) (okA_cons ((okCall (m_want_lot_of T) ctx_body hg (hr.mono (by decide)) (by rfl) T.g_want_lot_of T.F_want_lot_of.kp T.b_want_lot_of (okA_cons (okv 3) (okA_cons (okv 2) okA_nil)))).hrd okA_nil))))).hrd okA_nil)))))))
theorem m_want_shelf (T : Tx K mg) : FnM P w K mg base 3 T.a_want_shelf T.d_want_shelf ["store", "value"] f_want_shelf := by
  refine fnM_of T.F_want_shelf sc_want_shelf fun cdv A outer s H E hg hr => ?_
  have h64 := hr.units
  have h65 := room65 hr
  have h66 := room66 hr
  exact (okLast (okIfS ((okW_or (okT_not (okt (okCall (m_is_count T) ctx_body hg (hr.mono (by decide)) (by rfl) T.g_is_count T.F_is_count.kp T.b_is_count (okA_cons (okv 1) okA_nil)))) (okW_or1 (okT_cmpX so_ge (okv 1) (okFld T.cf_Store_own_shelves (okv 0)))))).t (okLast okNever) okNil))
theorem m_want_other_shelf (T : Tx K mg) : FnM P w K mg base 4 T.a_want_other_shelf T.d_want_other_shelf ["store", "shelf", "value"] f_want_other_shelf := by
  refine fnM_of T.F_want_other_shelf sc_want_other_shelf fun cdv A outer s H E hg hr => ?_
  have h64 := hr.units
  have h65 := room65 hr
  have h66 := room66 hr
  exact (okCons (okExpr (okCall (m_want_shelf T) ctx_body hg (hr.mono (by decide)) (by rfl) T.g_want_shelf T.F_want_shelf.kp T.b_want_shelf (okA_cons (okv 0) (okA_cons (okv 2) okA_nil))))
  (okLast (okIfS (okT_cmpX (so_eq h64) (okv 2) (okv 1)) (okLast okNever) okNil)))
theorem m_holds (T : Tx K mg) : FnM P w K mg base 1 T.a_holds T.d_holds ["bits", "shelf"] f_holds := by
  refine fnM_of T.F_holds sc_holds fun cdv A outer s H E hg hr => ?_
  have h64 := hr.units
  have h65 := room65 hr
  have h66 := room66 hr
  exact (okLast (okRet (okCmpX (so_eq h64) (okOpX so_and (okOpX so_shr (okv 0) (okv 1)) okInt) okInt)))
theorem m_is_named (T : Tx K mg) : FnM P w K mg base 2 T.a_is_named T.d_is_named ["store", "shelf"] f_is_named := by
  refine fnM_of T.F_is_named sc_is_named fun cdv A outer s H E hg hr => ?_
  have h64 := hr.units
  have h65 := room65 hr
  have h66 := room66 hr
  exact (okLast (okRet (okCallBX (sc_any rfl) (by rfl) T.z_any PyProof.Rows.boot_any (okA_cons (oklc [(("bits" : Str), 2)] rfl sc_is_named.nd (okI_seq (okFld T.cf_Store_own_deliveries (okv 0))) (fun _ _ _ _ _ => (okcn 2 sc_is_named.nd)) (fun _ _ _ _ _ => okTs_nil) (fun _ _ _ _ _ => ((okCall (m_holds T) ctx_WF hg (hr.mono (by decide)) (by rfl) T.g_holds T.F_holds.kp T.b_holds (okA_cons (okv 2) (okA_cons (okv 1) okA_nil)))).hrd)) okA_nil))))
theorem m_positions_with (T : Tx K mg) : FnM P w K mg base 2 T.a_positions_with T.d_positions_with ["kinds", "shelf", "other"] f_positions_with := by
  refine fnM_of T.F_positions_with sc_positions_with fun cdv A outer s H E hg hr => ?_
  have h64 := hr.units
  have h65 := room65 hr
  have h66 := room66 hr
  exact (okLast (okRet (oklc [(("at" : Str), 3), (("bits" : Str), 4)] rfl sc_positions_with.nd (okI_enum (by rfl) T.z_enumerate (okA_cons (okv 0) okA_nil)) (fun _ _ _ _ _ => (okct [3, 4] rfl (pgs_cons (pgn 3 sc_positions_with.nd) (pgs_cons (pgn 4 sc_positions_with.nd) pgs_nil)))) (fun _ _ _ _ _ => (okTs_one ((okW_and (okt (okCall (m_holds T) ctx_WF hg (hr.mono (by decide)) (by rfl) T.g_holds T.F_holds.kp T.b_holds (okA_cons (okv 4) (okA_cons (okv 1) okA_nil)))) (okW_and1 (okT_not (okt (okCall (m_holds T) ctx_WF hg (hr.mono (by decide)) (by rfl) T.g_holds T.F_holds.kp T.b_holds (okA_cons (okv 4) (okA_cons (okv 2) okA_nil)))))))).t)) (fun _ _ _ _ _ => (okv 3)))))
theorem m_blame_of (T : Tx K mg) : FnM P w K mg base 3 T.a_blame_of T.d_blame_of ["store", "shelf", "other"] f_blame_of := by
  refine fnM_of T.F_blame_of sc_blame_of fun cdv A outer s H E hg hr => ?_
  have h64 := hr.units
  have h65 := room65 hr
  have h66 := room66 hr
  exact (okCons (okIfS (okT_not (okt (okCall (m_is_named T) ctx_body hg (hr.mono (by decide)) (by rfl) T.g_is_named T.F_is_named.kp T.b_is_named (okA_cons (okv 0) (okA_cons (okv 1) okA_nil))))) (okLast (okRet (okTup (okA_cons ((okLst okA_nil)).hrd (okA_cons ((okLst okA_nil)).hrd okA_nil))))) okNil)
  (okLast (okRet (okTup (okA_cons ((okCall (m_positions_with T) ctx_body hg (hr.mono (by decide)) (by rfl) T.g_positions_with T.F_positions_with.kp T.b_positions_with (okA_cons (okFld T.cf_Store_own_deliveries (okv 0)) (okA_cons (okv 1) (okA_cons (okv 2) okA_nil))))).hrd (okA_cons ((okCall (m_positions_with T) ctx_body hg (hr.mono (by decide)) (by rfl) T.g_positions_with T.F_positions_with.kp T.b_positions_with (okA_cons (okFld T.cf_Store_own_sales (okv 0)) (okA_cons (okv 2) (okA_cons (okv 1) okA_nil))))).hrd okA_nil))))))
theorem m_is_never (T : Tx K mg) : FnM P w K mg base 4 T.a_is_never T.d_is_never ["store", "shelf", "other"] f_is_never := by
  refine fnM_of T.F_is_never sc_is_never fun cdv A outer s H E hg hr => ?_
  have h64 := hr.units
  have h65 := room65 hr
  have h66 := room66 hr
  exact (okLast (okRet (okCmpX (so_eq h64) (okCall (m_blame_of T) ctx_body hg (hr.mono (by decide)) (by rfl) T.g_blame_of T.F_blame_of.kp T.b_blame_of (okA_cons (okv 0) (okA_cons (okv 1) (okA_cons (okv 2) okA_nil)))) (okTup (okA_cons ((okLst okA_nil)).hrd (okA_cons ((okLst okA_nil)).hrd okA_nil))))))
theorem m_never_two_above (T : Tx K mg) : FnM P w K mg base 5 T.a_never_two_above T.d_never_two_above ["store", "shelf", "other"] f_never_two_above := by
  refine fnM_of T.F_never_two_above sc_never_two_above fun cdv A outer s H E hg hr => ?_
  have h64 := hr.units
  have h65 := room65 hr
  have h66 := room66 hr
  exact (okCons (okset 3 false sc_never_two_above.nd ((okCall (m_want_store T) ctx_body hg (hr.mono (by decide)) (by rfl) T.g_want_store T.F_want_store.kp T.b_want_store (okA_cons (okv 0) okA_nil))).hrd)
  (okCons (okExpr (okCall (m_want_shelf T) ctx_body hg (hr.mono (by decide)) (by rfl) T.g_want_shelf T.F_want_shelf.kp T.b_want_shelf (okA_cons (okv 3) (okA_cons (okv 1) okA_nil))))
  (okCons (okExpr (okCall (m_want_other_shelf T) ctx_body hg (hr.mono (by decide)) (by rfl) T.g_want_other_shelf T.F_want_other_shelf.kp T.b_want_other_shelf (okA_cons (okv 3) (okA_cons (okv 1) (okA_cons (okv 2) okA_nil)))))
  (okLast (okRet (okCall (m_is_never T) ctx_body hg (hr.mono (by decide)) (by rfl) T.g_is_never T.F_is_never.kp T.b_is_never (okA_cons (okv 3) (okA_cons (okv 1) (okA_cons (okv 2) okA_nil)))))))))
theorem m_want_weights (T : Tx K mg) : FnM P w K mg base 2 T.a_want_weights T.d_want_weights ["store", "value"] f_want_weights := by
  refine fnM_of T.F_want_weights sc_want_weights fun cdv A outer s H E hg hr => ?_
  have h64 := hr.units
  have h65 := room65 hr
  have h66 := room66 hr
  exact (okCons (okIfS ((okW_or (okT_not (okt (okCall (m_is_list T) ctx_body hg (hr.mono (by decide)) (by rfl) T.g_is_list T.F_is_list.kp T.b_is_list (okA_cons (okv 1) okA_nil)))) (okW_or (okT_cmpX (so_ne h64) (okCallBX sc_len (by rfl) T.z_len boot_len (okA_cons (okv 1) okA_nil)) (okFld T.cf_Store_own_shelves (okv 0))) (okW_or1 (okT_not (okt (okCallBX (sc_all rfl) (by rfl) T.z_all PyProof.Rows.boot_all (okA_cons (oklc [(("number" : Str), 2)] rfl sc_want_weights.nd (okI_seq (okv 1)) (fun _ _ _ _ _ => (okcn 2 sc_want_weights.nd)) (fun _ _ _ _ _ => okTs_nil) (fun _ _ _ _ _ => ((okCall (m_is_integer T) ctx_WF hg (hr.mono (by decide)) (by rfl) T.g_is_integer T.F_is_integer.kp T.b_is_integer (okA_cons (okv 2) okA_nil))).hrd)) okA_nil)))))))).t (okLast okNever) okNil)
  (okLast (okRet (okCallTyX sc_tuple (by rfl) T.z_tuple boot_tuple' (okA_cons (okv 1) okA_nil)))))
theorem m_stays_below (T : Tx K mg) : FnM P w K mg base 6 T.a_stays_below T.d_stays_below ["store", "weights"] f_stays_below := by
  refine fnM_of T.F_stays_below sc_stays_below fun cdv A outer s H E hg hr => ?_
  have h64 := hr.units
  have h65 := room65 hr
  have h66 := room66 hr
  exact (okCons (okset 2 false sc_stays_below.nd ((okCall (m_want_store T) ctx_body hg (hr.mono (by decide)) (by rfl) T.g_want_store T.F_want_store.kp T.b_want_store (okA_cons (okv 0) okA_nil))).hrd)
  (okLast (okRet (okCall (m_stays_of T) ctx_body hg (hr.mono (by decide)) (by rfl) T.g_stays_of T.F_stays_of.kp T.b_stays_of (okA_cons (okv 2) (okA_cons ((okCall (m_want_weights T) ctx_body hg (hr.mono (by decide)) (by rfl) T.g_want_weights T.F_want_weights.kp T.b_want_weights (okA_cons (okv 2) (okA_cons (okv 1) okA_nil)))).hrd okA_nil))))))
theorem m__law_due (T : Tx K mg) : FnM P w K mg base 1 T.a__law_due T.d__law_due ["flats", "lot", "other"] f__law_due := by
  refine fnM_of T.F__law_due sc__law_due fun cdv A outer s H E hg hr => ?_
  have h64 := hr.units
  have h65 := room65 hr
  have h66 := room66 hr
  exact (okLast (okRet (okCallBX (sc_all rfl) (by rfl) T.z_all PyProof.Rows.boot_all (okA_cons (oklc [(("one" : Str), 3)] rfl sc__law_due.nd (okI_seq (okv 0)) (fun _ _ _ _ _ => (okcn 3 sc__law_due.nd)) (fun _ _ _ _ _ => okTs_nil) (fun _ _ _ _ _ => (okCmpX so_le (okCallBX sc_len (by rfl) T.z_len boot_len (okA_cons (oklc [(("shelf" : Str), 4)] rfl sc__law_due.nd (okI_seq (okv 3)) (fun _ _ _ _ _ => (okcn 4 sc__law_due.nd)) (fun _ _ _ _ _ => (okTs_one (okT_cmpX (so_inT h65) (okv 4) (okv 1)))) (fun _ _ _ _ _ => (okv 4))) okA_nil)) (okCallBX sc_len (by rfl) T.z_len boot_len (okA_cons (oklc [(("shelf" : Str), 4)] rfl sc__law_due.nd (okI_seq (okv 3)) (fun _ _ _ _ _ => (okcn 4 sc__law_due.nd)) (fun _ _ _ _ _ => (okTs_one (okT_cmpX (so_inT h65) (okv 4) (okv 2)))) (fun _ _ _ _ _ => (okv 4))) okA_nil))))) okA_nil))))
theorem m__law_right (T : Tx K mg) : FnM P w K mg base 9 T.a__law_right T.d__law_right ["pot"] f__law_right := by
  refine fnM_of T.F__law_right sc__law_right fun cdv A outer s H E hg hr => ?_
  have h64 := hr.units
  have h65 := room65 hr
  have h66 := room66 hr
  exact (okCons (okset 1 false sc__law_right.nd ((okCall (m__law_world T) ctx_body hg (hr.mono (by decide)) (by rfl) T.g__law_world T.F__law_world.kp T.b__law_world (okA_cons (okv 0) (okA_cons okInt okA_nil)))).hrd)
  (okCons (okParT (is := [(2, false), (3, false), (4, false)]) (n := 3) rfl (okA_cons ((okCall (m__law_store T) ctx_body hg (hr.mono (by decide)) (by rfl) T.g__law_store T.F__law_store.kp T.b__law_store (okA_cons (okv 1) okA_nil))).hrd (okA_cons ((okCall (m__law_flats T) ctx_body hg (hr.mono (by decide)) (by rfl) T.g__law_flats T.F__law_flats.kp T.b__law_flats (okA_cons ((okCall (m__law_plain T) ctx_body hg (hr.mono (by decide)) (by rfl) T.g__law_plain T.F__law_plain.kp T.b__law_plain (okA_cons (okv 1) okA_nil))).hrd okA_nil))).hrd (okA_cons (okIxX (okv 1) okInt) okA_nil))) (pgs_cons (pgn 2 sc__law_right.nd) (pgs_cons (pgn 3 sc__law_right.nd) (pgs_cons (pgn 4 sc__law_right.nd) pgs_nil))) rfl)
  (okCons (okset 5 false sc__law_right.nd ((okLst (okA_cons ((okCall (m__law_lot T) ctx_body hg (hr.mono (by decide)) (by rfl) T.g__law_lot T.F__law_lot.kp T.b__law_lot (okA_cons (okv 0) (okA_cons (okv 4) okA_nil)))).hrd (okA_cons ((okCall (m__law_lot T) ctx_body hg (hr.mono (by decide)) (by rfl) T.g__law_lot T.F__law_lot.kp T.b__law_lot (okA_cons (okv 0) (okA_cons (okv 4) okA_nil)))).hrd (okA_cons ((okCall (m__law_lot T) ctx_body hg (hr.mono (by decide)) (by rfl) T.g__law_lot T.F__law_lot.kp T.b__law_lot (okA_cons (okv 0) (okA_cons (okv 4) okA_nil)))).hrd okA_nil))))).hrd)
  (okCons (okset 6 true sc__law_right.nd (okLst okA_nil))
  (okCons (okFor own_body rfl (okI_seq (okv 5)) (okgn 7 sc__law_right.nd) (okCons (oksetLcF 8 [(("other" : Str), 13)] rfl sc__law_right.nd (okI_seq (okv 5)) (fun _ _ _ _ _ => (okcn 13 sc__law_right.nd)) (fun _ _ _ _ _ => okTs_nil) (fun _ _ _ _ _ => ((okCall (m_never_more T) ctx_WF hg (hr.mono (by decide)) (by rfl) T.g_never_more T.F_never_more.kp T.b_never_more (okA_cons (okv 2) (okA_cons (okv 7) (okA_cons (okv 13) okA_nil))))).hrd))
  (okCons (okIfS (okT_cmpX (so_ne h64) (okCallBX (sc_repr hg h66) (by rfl) T.z_repr PyProof.Rows.boot_repr (okA_cons (okv 8) okA_nil)) (okCallBX (sc_repr hg h66) (by rfl) T.z_repr PyProof.Rows.boot_repr (okA_cons (oklc [(("other" : Str), 13)] rfl sc__law_right.nd (okI_seq (okv 5)) (fun _ _ _ _ _ => (okcn 13 sc__law_right.nd)) (fun _ _ _ _ _ => okTs_nil) (fun _ _ _ _ _ => ((okCall (m__law_due T) ctx_WF hg (hr.mono (by decide)) (by rfl) T.g__law_due T.F__law_due.kp T.b__law_due (okA_cons (okv 3) (okA_cons (okv 7) (okA_cons (okv 13) okA_nil))))).hrd)) okA_nil))) (okLast (okRet okBool)) okNil)
  (okLast (okExpr (okappend (okv 6) (okA_cons (okv 8) okA_nil)))))) (nmG_nx 7))
  (okCons (okFor own_body rfl (okI_range1 (by rfl) T.z_range (okA_cons okInt okA_nil)) (okgn 9 sc__law_right.nd) (okCons (okIfS (okT_cmpX so_isNot (okIxX (okIxX (okv 6) (okv 9)) (okv 9)) okBool) (okLast (okRet okBool)) okNil)
  (okCons (okPar (i := 10) (j := 11) (o1 := false) (o2 := false) rfl sc__law_right.nd rfl rfl (by decide) rfl rfl (okA_cons (okOpX so_mod (okCallTyX sc_int (by rfl) T.z_int boot_int' (okA_cons (okOpX so_add (okv 9) okInt) okA_nil)) okInt) (okA_cons (okOpX so_mod (okCallTyX sc_int (by rfl) T.z_int boot_int' (okA_cons (okOpX so_add (okv 9) okInt) okA_nil)) okInt) okA_nil)) (by rfl))
  (okCons (okIfS ((okW_and (okt (okIxX (okIxX (okv 6) (okv 9)) (okv 10))) (okW_and (okt (okIxX (okIxX (okv 6) (okv 10)) (okv 11))) (okW_and1 (okT_not (okt (okIxX (okIxX (okv 6) (okv 9)) (okv 11)))))))).t (okLast (okRet okBool)) okNil)
  (okLast (okIfS ((okW_and (okt (okIxX (okIxX (okv 6) (okv 9)) (okv 11))) (okW_and (okt (okIxX (okIxX (okv 6) (okv 11)) (okv 10))) (okW_and1 (okT_not (okt (okIxX (okIxX (okv 6) (okv 9)) (okv 10)))))))).t (okLast (okRet okBool)) okNil))))) (nmG_nx 9))
  (okCons (okParT (is := [(12, false), (13, false)]) (n := 2) rfl (okA_cons (okIxX (okv 5) okInt) (okA_cons (okIxX (okv 5) okInt) okA_nil)) (pgs_cons (pgn 12 sc__law_right.nd) (pgs_cons (pgn 13 sc__law_right.nd) pgs_nil)) rfl)
  (okCons (oksetLcF 14 [(("shelf" : Str), 15)] rfl sc__law_right.nd (okI_range1 (by rfl) T.z_range (okA_cons (okv 4) okA_nil)) (fun _ _ _ _ _ => (okcn 15 sc__law_right.nd)) (fun _ _ _ _ _ => okTs_nil) (fun _ _ _ _ _ => (okOpX so_sub (okCallTyX sc_int (by rfl) T.z_int boot_int' (okA_cons (okCmpX (so_inT h65) (okv 15) (okv 12)) okA_nil)) (okCallTyX sc_int (by rfl) T.z_int boot_int' (okA_cons (okCmpX (so_inT h65) (okv 15) (okv 13)) okA_nil)))))
  (okCons (okIfS ((okW_or (okT_cmpX (so_ne h64) (okCallBX (sc_repr hg h66) (by rfl) T.z_repr PyProof.Rows.boot_repr (okA_cons (okCall (m_stays_below T) ctx_body hg (hr.mono (by decide)) (by rfl) T.g_stays_below T.F_stays_below.kp T.b_stays_below (okA_cons (okv 2) (okA_cons (okv 14) okA_nil))) okA_nil)) (okCallBX (sc_repr hg h66) (by rfl) T.z_repr PyProof.Rows.boot_repr (okA_cons (okIxX (okIxX (okv 6) okInt) okInt) okA_nil))) (okW_or1 (okT_cmpX (so_ne h64) (okCallBX (sc_repr hg h66) (by rfl) T.z_repr PyProof.Rows.boot_repr (okA_cons (okCallK0 (m_never_more T) ctx_body hg (hr.mono (by decide)) (by rfl) T.g_never_more T.F_never_more.kp T.kb0 (okK_cons (okCallTyX sc_tuple (by rfl) T.z_tuple boot_tuple' (okA_cons (okv 13) okA_nil)) (okK_cons ((okCallBX (sc_sorted2 h64) (by rfl) T.z_sorted PyProof.Rows.boot_sorted (okA_cons (okv 12) okA_nil))).hrd (okK_cons (okv 2) okK_nil))) rfl) okA_nil)) (okCallBX (sc_repr hg h66) (by rfl) T.z_repr PyProof.Rows.boot_repr (okA_cons (okIxX (okIxX (okv 6) okInt) okInt) okA_nil)))))).t (okLast (okRet okBool)) okNil)
  (okCons (okIfS ((okW_or (okT_cmpX so_isNot (okCall (m_never_more T) ctx_body hg (hr.mono (by decide)) (by rfl) T.g_never_more T.F_never_more.kp T.b_never_more (okA_cons (okv 2) (okA_cons ((okLst okA_nil)).hrd (okA_cons (okv 13) okA_nil)))) okBool) (okW_or1 (okT_cmpX so_isNot (okCall (m_never_more T) ctx_body hg (hr.mono (by decide)) (by rfl) T.g_never_more T.F_never_more.kp T.b_never_more (okA_cons (okv 2) (okA_cons (okv 13) (okA_cons ((okListR1 rfl (by rfl) T.z_list (by rfl) T.z_range (okv 4))).hrd okA_nil)))) okBool)))).t (okLast (okRet okBool)) okNil)
  (okCons (okset 15 false sc__law_right.nd ((okCall (m__law_draw T) ctx_body hg (hr.mono (by decide)) (by rfl) T.g__law_draw T.F__law_draw.kp T.b__law_draw (okA_cons (okv 0) (okA_cons (okv 4) okA_nil)))).hrd)
  (okCons (okset 16 false sc__law_right.nd (okOpX so_mod (okCallTyX sc_int (by rfl) T.z_int boot_int' (okA_cons (okOpX so_add (okOpX so_add (okv 15) okInt) (okCall (m__law_draw T) ctx_body hg (hr.mono (by decide)) (by rfl) T.g__law_draw T.F__law_draw.kp T.b__law_draw (okA_cons (okv 0) (okA_cons (okOpX so_sub (okv 4) okInt) okA_nil)))) okA_nil)) (okv 4)))
  (okLast (okRet (okCmpX (so_eq h64) (okCallBX (sc_repr hg h66) (by rfl) T.z_repr PyProof.Rows.boot_repr (okA_cons (okCall (m_never_more T) ctx_body hg (hr.mono (by decide)) (by rfl) T.g_never_more T.F_never_more.kp T.b_never_more (okA_cons (okv 2) (okA_cons ((okLst (okA_cons (okv 15) okA_nil))).hrd (okA_cons ((okLst (okA_cons (okv 16) okA_nil))).hrd okA_nil)))) okA_nil)) (okCallBX (sc_repr hg h66) (by rfl) T.z_repr PyProof.Rows.boot_repr (okA_cons (okCall (m_never_two_above T) ctx_body hg (hr.mono (by decide)) (by rfl) T.g_never_two_above T.F_never_two_above.kp T.b_never_two_above (okA_cons (okv 2) (okA_cons (okv 15) (okA_cons (okv 16) okA_nil)))) okA_nil)))))))))))))))))
theorem m__law_pot (T : Tx K mg) : FnM P w K mg base 1 T.a__law_pot T.d__law_pot ["script", "k"] f__law_pot := by
  refine fnM_of T.F__law_pot sc__law_pot fun cdv A outer s H E hg hr => ?_
  have h64 := hr.units
  have h65 := room65 hr
  have h66 := room66 hr
  exact (okCons (okset 2 false sc__law_pot.nd ((okIf (okT_cmpX so_lt (okv 1) (okCallBX sc_len (by rfl) T.z_len boot_len (okA_cons (okv 0) okA_nil))) (okCallBX sc_abs (by rfl) T.z_abs PyProof.Rows.boot_abs (okA_cons (okIxX (okv 0) (okv 1)) okA_nil)) (okOpX so_add (okOpX so_mul okInt (okv 1)) okInt))).hrd)
  (okLast (okRet (okLst (okA_cons (okCallBX (sc_max2 rfl) (by rfl) T.z_max PyProof.Rows.boot_max (okA_cons okInt (okA_cons (okOpX so_sub (okv 2) (okOpX so_pow okInt okInt)) okA_nil))) (okA_cons ((okOpX so_add (okOpX so_mod (okCallTyX sc_int (by rfl) T.z_int boot_int' (okA_cons (okOpX so_add (okOpX so_add (okOpX so_mul (okOpX so_mod (okCallTyX sc_int (by rfl) T.z_int boot_int' (okA_cons (okv 2) okA_nil)) okInt) okInt) (okOpX so_mul okInt (okv 1))) okInt) okA_nil)) okInt) okInt)).hrd okA_nil))))))
theorem m_law (T : Tx K mg) : FnM P w K mg base 10 T.a_law T.d_law ["script"] f_law := by
  refine fnM_of T.F_law sc_law fun cdv A outer s H E hg hr => ?_
  have h64 := hr.units
  have h65 := room65 hr
  have h66 := room66 hr
  exact (okLast (okRet (okCall (m__law_right T) ctx_body hg (hr.mono (by decide)) (by rfl) T.g__law_right T.F__law_right.kp T.b__law_right (okA_cons (okCall (m__law_pot T) ctx_body hg (hr.mono (by decide)) (by rfl) T.g__law_pot T.F__law_pot.kp T.b__law_pot (okA_cons (okv 0) (okA_cons okInt okA_nil))) okA_nil))))
end
end K46

namespace K46
open PySem PySem.Spec L2 Py
/-! ### the pot -/
theorem log_lt {i : Int} {k : Nat} (h1 : 0 ≤ i) (h2 : i < 2 ^ k) (hk : 0 < k) : i.natAbs.log2 < k := by
  by_cases z : i.natAbs = 0
  · rw [z]; simpa using hk
  · refine (Nat.log2_lt z).mpr ?_
    have : ((i.natAbs : Nat) : Int) < ((2 ^ k : Nat) : Int) := by
      rw [Int.natAbs_of_nonneg h1]
      simpa using h2
    exact Int.ofNat_lt.mp this
theorem mulC_of {i j : Int} (h1 : 0 ≤ i) (h2 : i < 2 ^ 400000) (h3 : 0 ≤ j) (h4 : j < 2 ^ 400000) : mulC i j = true := by
  have a := log_lt h1 h2 (by decide)
  have b := log_lt h3 h4 (by decide)
  simp only [mulC, decide_eq_true_eq]
  omega
theorem two_big : (2 : Int) ^ 64 < 2 ^ 400000 := by
  have : (2 : Nat) ^ 64 < 2 ^ 400000 := Nat.pow_lt_pow_right (by decide) (by decide)
  exact_mod_cast this
theorem mulC_small {i j : Int} (h1 : 0 ≤ i) (h2 : i < 2 ^ 64) (h3 : 0 ≤ j) (h4 : j < 2 ^ 64) : mulC i j = true :=
  mulC_of h1 (by have := two_big; omega) h3 (by have := two_big; omega)
def PotOk (a b : Int) : Prop := 0 ≤ a ∧ 0 ≤ b ∧ b < 2 ^ 40
abbrev potC (a b : Int) : Cell := .lst [.int a, .int b]
theorem noPy {i j : Int} (h : 0 < j) (h2 : j < 1073741824) : Builtin.divisionGoesByPylong i j = false := PyProof.noPylong_small (by omega)
theorem fm {i j : Int} (h : 0 < j) : i.fmod j = i % j := Int.fmod_eq_emod_of_nonneg i (by omega)
theorem ix0 (x y : D) : atI [x, y] 0 = some x := rfl
theorem ix1 (x y : D) : atI [x, y] 1 = some y := rfl
def KindOk (S : Int) (ns : List Int) : Prop := ns ≠ [] ∧ ns.Nodup ∧ ∀ n ∈ ns, 0 ≤ n ∧ n < S
def KindsOk (S : Int) (rs : List (List Int)) : Prop := ∀ r ∈ rs, KindOk S r
/-! ### lots, by the program -/
@[simp] theorem F_is_integer (d : D) : f_is_integer [.dat d] = some (.ret (.dat (.bool (Py.isInt d && !Py.isBool d))) []) := by
  simp [f_is_integer]
  cases Py.isInt d <;> simp
def isCount : D → Bool
  | .int i => decide (0 ≤ i)
  | _ => false
@[simp] theorem F_is_count (d : D) : f_is_count [.dat d] = some (.ret (.dat (.bool (isCount d))) []) := by
  cases d <;> simp [f_is_count, isCount]
theorem F_are_shelves {i : Int} (h : 2 ≤ i ∧ i ≤ 8) : f_are_shelves [.dat (.int i)] = some (.ret (.dat (.bool true)) []) := by
  have : 0 ≤ i := by omega
  simp [f_are_shelves, isCount, h.1, h.2, this]
@[simp] theorem F_is_list (d : D) : f_is_list [.dat d] = some (.ret (.dat (.bool (isSeq d))) []) := by
  cases d <;> simp [f_is_list, isSeq]
def item (S : Int) : D → Bool
  | .int i => decide (0 ≤ i) && decide (i < S)
  | _ => false
def toI : D → Int
  | .int i => i
  | _ => 0
def lotB (S : Int) (v : D) : Bool := isSeq v && (seqOf v).all (item S) && decide (((seqOf v).map toI).Nodup)
theorem items_ints {S : Int} : ∀ {ds : List D}, ds.all (item S) = true → ds = (ds.map toI).map PyData.int ∧ ∀ n ∈ ds.map toI, 0 ≤ n ∧ n < S
  | [], _ => ⟨rfl, by simp⟩
  | d :: ds, h => by
    simp only [List.all_cons, Bool.and_eq_true] at h
    obtain ⟨h1, h2⟩ := items_ints h.2
    cases d with
    | int i =>
      have h3 : (decide (0 ≤ i) && decide (i < S)) = true := h.1
      simp only [Bool.and_eq_true, decide_eq_true_eq] at h3
      refine ⟨by simp only [List.map_cons, toI]; rw [← h1], fun n hn => ?_⟩
      rcases List.mem_cons.mp hn with e | hn
      · rw [e]; exact h3
      · exact h2 n hn
    | _ => cases h.1
theorem in_range_len {S : Nat} {ns : List Int} (h : ns.Nodup) (h2 : ∀ n ∈ ns, 0 ≤ n ∧ n < (S : Int)) : ns.length ≤ S := by
  have := nodup_le (b := (List.range S).map fun i => ((i : Nat) : Int)) h fun x hx => by
    have := h2 x hx
    exact List.mem_map.mpr ⟨x.toNat, List.mem_range.mpr (by omega), by omega⟩
  simpa using this
theorem is_lot_of {S : Int} {v : D} (h0 : 0 ≤ S) (h1 : S ≤ 8) (hz : (seqOf v).length ≤ 1000) : f_is_lot_of [.dat (.int S), .dat v] = some (.ret (.dat (.bool (lotB S v))) []) := by
  cases hq : isSeq v with
  | false => simp [f_is_lot_of, hq, lotB]
  | true =>
    have e1 := lc_map (s := seqI (vS 1)) (e := andV (fCall f_is_count (consS (vS 2) nilS)) (opS gLt (vS 2) (vS 0))) (i := 2) (ρ := [some (.val (.dat (.int S))), some (.val (.dat v)), none]) (ρ0 := [some (.val (.dat (.int S))), some (.val (.dat v)), none]) (ds := seqOf v) (x := none) (fun d => .bool (item S d))
      (seqI_seq (by simp) hq) rfl free_none (fun d _ => by
        cases d with
        | int i => by_cases z : 0 ≤ i <;> simp [isCount, item, z]
        | _ => simp [isCount, item]) (by simp [lim]; omega)
    cases ha : (seqOf v).all (item S) with
    | false => simp [f_is_lot_of, hq, lotB, e1, ha]
    | true =>
      obtain ⟨i1, i2⟩ := items_ints ha
      have hlen : (sortU ((seqOf v).map toI)).length ≤ 8 := in_range_len (sortU_nodup _) fun n hn => by have := i2 n (mem_sortU.mp hn); omega
      have hin : intsIn v = some ((seqOf v).map toI) := intsIn_seq hq i1
      have hs : ∀ ρ, sortSetF [.dat v] ρ = some (.ok (.fresh (.lst ((sortU ((seqOf v).map toI)).map PyData.int))) ρ) := fun ρ => by
        simp [sortSetF, hin]
        constructor <;> omega
      have hl := lenF_seq hq
      simp [f_is_lot_of, hq, lotB, e1, ha, hs, hl, -gEq_ii]
      rw [gEq_of rfl rfl (by simp) (by simp), eqv_int]
      simp only [toS_okk, bnd_some_ok]
      have : decide ((((sortU ((seqOf v).map toI)).length : Nat) : Int) = ((seqOf v).length : Nat)) = decide (((seqOf v).map toI).Nodup) := by
        refine decide_eq_decide.mpr ?_
        rw [← sortU_len_eq, List.length_map]
        omega
      simp [this]
theorem rngD8 : rngD 0 8 = (List.range 8).map fun i : Nat => PyData.int ((i : Nat) : Int) := by simp [rngD]
theorem free_loop : ∀ (ns : List Int) (acc : Int) (v : D) (x : Option Slot), Free x → (∀ n ∈ ns, 0 ≤ n ∧ n ≤ 1000000) → ∃ y, Free y ∧
    forL (nmG 2) (asgS false 1 (opS gOr (vS 1) (opS gShl (cS (.int 1)) (vS 2)))) (ns.map PyData.int) [some (.val (.dat v)), some (.val (.dat (.int acc))), x] = some (.nx [some (.val (.dat v)), some (.val (.dat (.int (ns.foldl (fun (x : Int) n => Builtin.bitOr x (1 * 2 ^ n.toNat)) acc)))), y])
  | [], acc, v, x, hx, _ => ⟨x, hx, rfl⟩
  | n :: ns, acc, v, x, hx, h => by
    obtain ⟨n0, n1⟩ := h n (by simp)
    have p : powC 1 n = true := by simp [powC, n0, n1]
    obtain ⟨y, hy, e⟩ := free_loop ns (Builtin.bitOr acc (1 * 2 ^ n.toNat)) v (some (.val (.dat (.int n)))) (free_val _) fun m hm => h m (by simp [hm])
    refine ⟨y, hy, ?_⟩
    simp only [List.map_cons, forL]
    simp [hx, p]
    simpa using e
theorem bits_of {v : D} {ns : List Int} (hq : isSeq v = true) (hv : seqOf v = ns.map PyData.int) (h : ∀ n ∈ ns, 0 ≤ n ∧ n ≤ 1000000) : f_bits_of [.dat v] = some (.ret (.dat (.int (bitsN ns : Nat))) []) := by
  obtain ⟨y, _, e⟩ := free_loop ns 0 v none free_none h
  have f := bits_fold ns 0 fun n hn => (h n hn).1
  have hs : seqI (vS 0) [some (.val (.dat v)), some (.val (.dat (.int 0))), none] = some (.ok (seqOf v) [some (.val (.dat v)), some (.val (.dat (.int 0))), none]) := seqI_seq (by simp) hq
  have f' : ns.foldl (fun (x : Int) n => Builtin.bitOr x (1 * 2 ^ n.toNat)) 0 = (bitsN ns : Nat) := f
  simp only [f'] at e
  simp [f_bits_of, B_bits_of_1, hs, hv, e, -seqI_at]
theorem told_lot (b : Nat) : f_told_lot [.dat (.int (b : Nat))] = some (.ret (.fresh (.lst ((spotsN 8 b).map PyData.int))) []) := by
  have e1 := lc_name (s := rngI rng1F (consS (cS (.int 8)) nilS)) (t := tst (opS gEq (opS gAnd (opS gShr (vS 0) (vS 1)) (cS (.int 1))) (cS (.int 1)))) (e := vS 1) (i := 1) (ρ := [some (.val (.dat (.int (b : Nat)))), none]) (ρ0 := [some (.val (.dat (.int (b : Nat)))), none]) (ds := rngD 0 8) (x := none)
    (fun d => b.testBit (toI d).toNat) (fun d => d) (by simp; exact rng1_at (by decide) (by decide)) rfl free_none (fun d hd => by
      rw [rngD8] at hd
      obtain ⟨j, _, rfl⟩ := List.mem_map.mp hd
      have hj : (0 : Int) ≤ (j : Nat) := by omega
      have hb := bit_at b j
      refine ⟨?_, fun _ => by simp⟩
      simp [hj, -gEq_ii]
      rw [gEq_of rfl rfl (by simp) (by simp), eqv_int]
      simp at hb
      simp [hb, toI]) (by decide)
  have e2 : ((rngD 0 8).filter fun d => b.testBit (toI d).toNat).map (fun d => d) = (spotsN 8 b).map PyData.int := by
    rw [rngD8, List.map_id', List.filter_map]
    unfold spotsN
    rw [List.map_map]
    rfl
  rw [e2] at e1
  simp [f_told_lot, f_spots_of, e1]
/-! ### the store -/
def natsD (ks : List Nat) : List D := ks.map fun k => PyData.int ((k : Nat) : Int)
theorem natsD_ints (ks : List Nat) : natsD ks = (ks.map fun k => ((k : Nat) : Int)).map PyData.int := by simp [natsD, List.map_map, Function.comp_def]
/-- what the program makes of kinds -/
def plainN (ks : List Nat) : List Nat := (sortR ((sortU (ks.map fun k => ((k : Nat) : Int))).map fun m => spotsN 8 m.toNat)).map bitsN
theorem mem_plainN {ks : List Nat} (h : ∀ k ∈ ks, k < 256) (x : Nat) : x ∈ plainN ks ↔ x ∈ ks := by
  have mm : ∀ m, m ∈ sortU (ks.map fun k => ((k : Nat) : Int)) ↔ ∃ k ∈ ks, ((k : Nat) : Int) = m := fun m => by rw [mem_sortU, List.mem_map]
  unfold plainN
  simp only [List.mem_map, mem_sortR]
  constructor
  · rintro ⟨r, ⟨m, hm, rfl⟩, rfl⟩
    obtain ⟨k, hk, rfl⟩ := (mm m).mp hm
    rw [bits_spots (by simpa using h k hk)]
    simpa using hk
  · intro hx
    exact ⟨_, ⟨_, (mm _).mpr ⟨x, hx, rfl⟩, rfl⟩, bits_spots (by simpa using h x hx)⟩
theorem len_plainN (ks : List Nat) : (plainN ks).length ≤ ks.length := by
  have := nodup_le (sortU_nodup (ks.map fun k => ((k : Nat) : Int))) (b := ks.map fun k => ((k : Nat) : Int)) fun x hx => mem_sortU.mp hx
  simpa [plainN] using this
theorem rows_le_refl (a : List Int) : a ≤ a := List.le_refl a
theorem sortR_le (rs : List (List Int)) : (sortR rs).Pairwise (· ≤ ·) := by
  have := List.pairwise_mergeSort (le := fun a b : List Int => decide (a ≤ b)) (fun a b c h1 h2 => by simp only [decide_eq_true_eq] at *; exact List.le_trans h1 h2) (fun a b => by simp only [Bool.or_eq_true, decide_eq_true_eq]; exact List.le_total a b) rs
  exact this.imp fun h => of_decide_eq_true h
theorem sortR_uniq {T rs : List (List Int)} (hT : T.Pairwise (· < ·)) (nd : rs.Nodup) (hm : ∀ x, x ∈ rs ↔ x ∈ T) : sortR rs = T := by
  have tn : T.Nodup := hT.imp fun h e => by subst e; exact List.lt_irrefl _ h
  have p1 : (sortR rs).Perm T := (List.mergeSort_perm rs _).trans ((List.perm_ext_iff_of_nodup nd tn).mpr hm)
  exact p1.eq_of_pairwise (le := (· ≤ ·)) (fun a b _ _ h1 h2 => List.le_antisymm h1 h2) (sortR_le rs) (hT.imp fun h => List.le_of_lt h)
theorem plainN_told {S : Int} {rs T : List (List Int)} (h1 : S ≤ 8) (hk : ∀ r ∈ rs, r.Nodup ∧ ∀ n ∈ r, 0 ≤ n ∧ n < S) (hT : T.Pairwise (· < ·)) (hm : ∀ x, x ∈ T ↔ ∃ r ∈ rs, sortI r = x) : plainN (rs.map bitsN) = T.map bitsN := by
  have so : ∀ r ∈ rs, spotsN 8 (bitsN r) = sortI r := fun r hr => by
    rw [spots_bits fun n hn => by have := (hk r hr).2 n hn; omega, sortI_nodup (hk r hr).1]
  unfold plainN
  congr 1
  refine sortR_uniq hT ?_ fun x => ?_
  · refine List.pairwise_map.mpr ((sortU_nodup _).imp_of_mem fun {a b} ha hb h e => h ?_)
    obtain ⟨k, hk1, rfl⟩ := List.mem_map.mp (mem_sortU.mp ha)
    obtain ⟨k', hk2, rfl⟩ := List.mem_map.mp (mem_sortU.mp hb)
    obtain ⟨r, hr, rfl⟩ := List.mem_map.mp hk1
    obtain ⟨r', hr', rfl⟩ := List.mem_map.mp hk2
    have l1 := bits_lt (n := 8) (ns := r) fun n hn => by have := (hk r hr).2 n hn; omega
    have l2 := bits_lt (n := 8) (ns := r') fun n hn => by have := (hk r' hr').2 n hn; omega
    have e : spotsN 8 (bitsN r) = spotsN 8 (bitsN r') := by simpa using e
    have := congrArg bitsN e
    rw [bits_spots (by simpa using l1), bits_spots (by simpa using l2)] at this
    rw [this]
  · rw [hm, List.mem_map]
    constructor
    · rintro ⟨m, h, rfl⟩
      obtain ⟨k, hk1, rfl⟩ := List.mem_map.mp (mem_sortU.mp h)
      obtain ⟨r, hr, rfl⟩ := List.mem_map.mp hk1
      exact ⟨r, hr, by rw [← so r hr]; simp⟩
    · rintro ⟨r, hr, rfl⟩
      exact ⟨((bitsN r : Nat) : Int), mem_sortU.mpr (List.mem_map.mpr ⟨_, List.mem_map.mpr ⟨r, hr, rfl⟩, rfl⟩), by rw [← so r hr]; simp⟩
theorem plain_kinds' {ks : List Nat} (h : ∀ k ∈ ks, k < 256) (hz : ks.length ≤ 8) : f_plain_kinds [.dat (.list (natsD ks))] = some (.ret (.dat (.tuple (natsD (plainN ks)))) []) := by
  generalize hms : sortU (ks.map fun k => ((k : Nat) : Int)) = ms
  have mm : ∀ m, m ∈ ms ↔ ∃ k ∈ ks, ((k : Nat) : Int) = m := fun m => by rw [← hms, mem_sortU, List.mem_map]
  have ml : ms.length ≤ 8 := by
    rw [← hms]
    have := nodup_le (sortU_nodup (ks.map fun k => ((k : Nat) : Int))) (b := ks.map fun k => ((k : Nat) : Int)) fun x hx => mem_sortU.mp hx
    simp at this
    omega
  have hss : ∀ ρ, sortSetF [.dat (.list (natsD ks))] ρ = some (.ok (.fresh (.lst (ms.map PyData.int))) ρ) := fun ρ => by
    have : intsIn (.list (natsD ks)) = some (ks.map fun k => ((k : Nat) : Int)) := intsIn_seq rfl (natsD_ints ks)
    simp only [sortSetF, viewsS_cons, viewsS_nil, viewS_dat, this, hms, List.length_map]
    rw [if_pos (by omega)]
  generalize hrs : ms.map (fun m => spotsN 8 m.toNat) = rs
  have e1 := lc_map (s := seqI (hrd (callS sortSetF (consS (vS 0) nilS)))) (e := hrd (fCall f_told_lot (consS (vS 2) nilS))) (i := 2) (ρ := [some (.val (.dat (.list (natsD ks)))), none, none]) (ρ0 := [some (.val (.dat (.list (natsD ks)))), none, none]) (ds := ms.map PyData.int) (x := none)
    (fun d => rowD (spotsN 8 (toI d).toNat)) (by simp [hss]) rfl free_none (fun d hd => by
      obtain ⟨m, hm, rfl⟩ := List.mem_map.mp hd
      obtain ⟨k, _, rfl⟩ := (mm m).mp hm
      simp [told_lot k, toI]) (by simp [lim]; omega)
  have e2 : (ms.map PyData.int).map (fun d => rowD (spotsN 8 (toI d).toNat)) = rs.map rowD := by
    rw [← hrs]
    simp [List.map_map, Function.comp_def, toI]
  rw [e2] at e1
  have rl : rs.length ≤ 8 := by rw [← hrs, List.length_map]; exact ml
  have hso : sortF2 [.list (rs.map rowD)] = some ((sortR rs).map rowD) := sortF_rows (by simp [lim]; omega)
  have rin : ∀ r ∈ rs, ∀ n ∈ r, 0 ≤ n ∧ n ≤ 1000000 := fun r hr n hn => by
    rw [← hrs] at hr
    obtain ⟨m, _, rfl⟩ := List.mem_map.mp hr
    have := mem_spots.mp hn
    omega
  have e3 := lc_map (s := seqI (hrd (callS (cL sortF2) (consS (lcS (seqI (hrd (callS sortSetF (consS (vS 0) nilS)))) (nmG 2) yesS (hrd (fCall f_told_lot (consS (vS 2) nilS))) [2]) nilS)))) (e := hrd (fCall f_bits_of (consS (vS 1) nilS))) (i := 1) (ρ := [some (.val (.dat (.list (natsD ks)))), none, none]) (ρ0 := [some (.val (.dat (.list (natsD ks)))), none, none]) (ds := (sortR rs).map rowD) (x := none)
    (fun d => .int (bitsN ((seqOf d).map toI) : Nat)) (by simp [e1, hso]) rfl free_none (fun d hd => by
      obtain ⟨r, hr, rfl⟩ := List.mem_map.mp hd
      have := bits_of (v := rowD r) (ns := r) rfl rfl (rin r (mem_sortR.mp hr))
      simp [this, List.map_map, Function.comp_def, toI]) (by simp [lim]; omega)
  have e4 : ((sortR rs).map rowD).map (fun d => PyData.int (bitsN ((seqOf d).map toI) : Nat)) = natsD ((sortR rs).map bitsN) := by
    simp [natsD, List.map_map, Function.comp_def, toI]
  rw [e4] at e3
  have e5 : plainN ks = (sortR rs).map bitsN := by
    unfold plainN
    rw [hms, hrs]
  rw [e5]
  simp [f_plain_kinds, e3]
theorem plain_kinds {ks : List Nat} (h : ∀ k ∈ ks, k < 256) (hz : ks.length ≤ 8) : ∃ os : List Nat, f_plain_kinds [.dat (.list (natsD ks))] = some (.ret (.dat (.tuple (natsD os))) []) ∧ (∀ x, x ∈ os ↔ x ∈ ks) ∧ os.length ≤ 8 :=
  ⟨plainN ks, plain_kinds' h hz, mem_plainN h, by have := len_plainN ks; omega⟩
theorem lot_kind {S : Int} {r : List Int} (h : KindOk S r) : lotB S (rowD r) = true := by
  obtain ⟨_, nd, h3⟩ := h
  have ha : (r.map PyData.int).all (item S) = true := by
    rw [List.all_eq_true]
    intro d hd
    obtain ⟨n, hn, rfl⟩ := List.mem_map.mp hd
    have := h3 n hn
    simp [item, this.1, this.2]
  have e : (r.map PyData.int).map toI = r := by simp [List.map_map, Function.comp_def, toI]
  unfold lotB
  rw [show isSeq (rowD r) = true from rfl, show seqOf (rowD r) = r.map PyData.int from rfl, ha, e]
  simp [nd]
theorem kind_len {S : Int} {r : List Int} (h : KindOk S r) (h1 : S ≤ 8) : r.length ≤ 8 := in_range_len h.2.1 fun n hn => by have := h.2.2 n hn; omega
theorem are_kinds {S : Int} {rs : List (List Int)} (h0 : 0 ≤ S) (h1 : S ≤ 8) (hk : KindsOk S rs) (hl : rs.length ≤ 8) : f_are_kinds [.dat (.int S), .dat (rowsD rs)] = some (.ret (.dat (.bool true)) []) := by
  have e1 := lc_map (s := seqI (vS 1)) (e := hrd (fCall f_is_kind (consS (vS 0) (consS (vS 2) nilS)))) (i := 2) (ρ := [some (.val (.dat (.int S))), some (.val (.dat (rowsD rs))), none]) (ρ0 := [some (.val (.dat (.int S))), some (.val (.dat (rowsD rs))), none]) (ds := rs.map rowD) (x := none) (fun _ => .bool true)
    (seqI_seq (v := rowsD rs) (by simp) rfl) rfl free_none (fun d hd => by
      obtain ⟨r, hr, rfl⟩ := List.mem_map.mp hd
      have kk := hk r hr
      have hl := kind_len kk h1
      have e := is_lot_of (v := rowD r) h0 h1 (by simp; omega)
      rw [lot_kind kk] at e
      have pos : (0 : Int) < (r.length : Nat) := by
        have := List.length_pos_iff.mpr kk.1
        omega
      have hp : 0 < r.length := List.length_pos_iff.mpr kk.1
      simp [f_is_kind, e, hp]) (by simp [lim]; omega)
  have hl8 : ((rs.length : Nat) : Int) ≤ 8 := by omega
  have hl9 : rs.length ≤ 8 := by omega
  have ha : allF [PyData.list ((rs.map rowD).map fun _ => PyData.bool true)] = some (.bool true) := by
    rw [allF_fun]
    simp
  simp only [List.map_map] at e1 ha
  simp [f_are_kinds, hl8, e1, ha]
def storeW' (S : Int) (ds ss : List Nat) : W := .obj "Store" [("own_shelves", some (.int S)), ("own_deliveries", some (.tuple (natsD ds))), ("own_sales", some (.tuple (natsD ss))), ("own_kept", none)]
theorem bits_kinds {S : Int} {rs : List (List Int)} (h1 : S ≤ 8) (hk : KindsOk S rs) : ∀ k ∈ rs.map bitsN, k < 256 := fun k hm => by
  obtain ⟨r, hr, rfl⟩ := List.mem_map.mp hm
  exact bits_lt (n := 8) fun m hm => by have := (hk r hr).2.2 m hm; omega
theorem store_init' {S : Int} {rs ss : List (List Int)} (h0 : 2 ≤ S) (h1 : S ≤ 8) (hk : KindsOk S rs) (hl : rs.length ≤ 8) (hk2 : KindsOk S ss) (hl2 : ss.length ≤ 8) :
    f_Store_init [.fresh (.ins "Store" []), .dat (.int S), .dat (rowsD rs), .dat (rowsD ss)] = some (.ret (.dat .none) [.ins "Store" [("own_shelves", some (.int S)), ("own_deliveries", some (.tuple (natsD (plainN (rs.map bitsN))))), ("own_sales", some (.tuple (natsD (plainN (ss.map bitsN))))), ("own_kept", none)]]) := by
  have e1 := plain_kinds' (bits_kinds h1 hk) (by simp; omega)
  have e2 := plain_kinds' (bits_kinds h1 hk2) (by simp; omega)
  have bb : ∀ {rs : List (List Int)}, KindsOk S rs → ∀ d ∈ rs.map rowD, f_bits_of [.dat d] = some (.ret (.dat (.int (bitsN ((seqOf d).map toI) : Nat))) []) := fun {rs} hk d hd => by
    obtain ⟨r, hr, rfl⟩ := List.mem_map.mp hd
    have := bits_of (v := rowD r) (ns := r) rfl rfl fun n hn => by have := (hk r hr).2.2 n hn; omega
    simp [this, List.map_map, Function.comp_def, toI]
  have mm : ∀ rs : List (List Int), (rs.map rowD).map (fun d => PyData.int (bitsN ((seqOf d).map toI) : Nat)) = natsD (rs.map bitsN) := fun rs => by simp [natsD, List.map_map, Function.comp_def, toI]
  have c1 : ∀ (c : Cell), lcS (seqI (vS 2)) (nmG 4) yesS (hrd (fCall f_bits_of (consS (vS 4) nilS))) [4] [some (.ref c), some (.val (.dat (.int S))), some (.val (.dat (rowsD rs))), some (.val (.dat (rowsD ss))), none] = some (.ok (.fresh (.lst (natsD (rs.map bitsN)))) [some (.ref c), some (.val (.dat (.int S))), some (.val (.dat (rowsD rs))), some (.val (.dat (rowsD ss))), none]) := fun c => by
    rw [← mm rs]
    exact lc_map (ρ0 := [some (.ref c), some (.val (.dat (.int S))), some (.val (.dat (rowsD rs))), some (.val (.dat (rowsD ss))), none]) (x := none) _ (seqI_seq (v := rowsD rs) (by simp) rfl) rfl free_none (fun d hd => by simp [bb hk d hd]) (by simp [lim]; omega)
  have c2 : ∀ (c : Cell), lcS (seqI (vS 3)) (nmG 4) yesS (hrd (fCall f_bits_of (consS (vS 4) nilS))) [4] [some (.ref c), some (.val (.dat (.int S))), some (.val (.dat (rowsD rs))), some (.val (.dat (rowsD ss))), none] = some (.ok (.fresh (.lst (natsD (ss.map bitsN)))) [some (.ref c), some (.val (.dat (.int S))), some (.val (.dat (rowsD rs))), some (.val (.dat (rowsD ss))), none]) := fun c => by
    rw [← mm ss]
    exact lc_map (ρ0 := [some (.ref c), some (.val (.dat (.int S))), some (.val (.dat (rowsD rs))), some (.val (.dat (rowsD ss))), none]) (x := none) _ (seqI_seq (v := rowsD ss) (by simp) rfl) rfl free_none (fun d hd => by simp [bb hk2 d hd]) (by simp [lim]; omega)
  have w1 : f_want_shelves [.dat (.int S)] = some (.ret (.dat .none) []) := by simp [f_want_shelves, F_are_shelves ⟨h0, h1⟩]
  have k1 := are_kinds (by omega) h1 hk hl
  have k2 := are_kinds (by omega) h1 hk2 hl2
  have n1 : ¬ (("own_shelves" : Str) = "own_deliveries") := by decide +kernel
  have n2 : ¬ (("own_shelves" : Str) = "own_sales") := by decide +kernel
  have n3 : ¬ (("own_deliveries" : Str) = "own_sales") := by decide +kernel
  have n4 : ¬ (("own_shelves" : Str) = "own_kept") := by decide +kernel
  have n5 : ¬ (("own_deliveries" : Str) = "own_kept") := by decide +kernel
  have n6 : ¬ (("own_sales" : Str) = "own_kept") := by decide +kernel
  simp [f_Store_init, w1, k1, k2, c1, c2, e1, e2, putD_ne, n1, n2, n3, n4, n5, n6]
theorem store_init {S : Int} {rs ss : List (List Int)} (h0 : 2 ≤ S) (h1 : S ≤ 8) (hk : KindsOk S rs) (hl : rs.length ≤ 8) (hk2 : KindsOk S ss) (hl2 : ss.length ≤ 8) :
    ∃ ds es : List Nat, f_Store_init [.fresh (.ins "Store" []), .dat (.int S), .dat (rowsD rs), .dat (rowsD ss)] = some (.ret (.dat .none) [.ins "Store" [("own_shelves", some (.int S)), ("own_deliveries", some (.tuple (natsD ds))), ("own_sales", some (.tuple (natsD es))), ("own_kept", none)]]) ∧
      (∀ x, x ∈ ds ↔ x ∈ rs.map bitsN) ∧ (∀ x, x ∈ es ↔ x ∈ ss.map bitsN) ∧ ds.length ≤ 8 ∧ es.length ≤ 8 :=
  ⟨plainN (rs.map bitsN), plainN (ss.map bitsN), store_init' h0 h1 hk hl hk2 hl2, mem_plainN (bits_kinds h1 hk), mem_plainN (bits_kinds h1 hk2), by have := len_plainN (rs.map bitsN); simp at this; omega, by have := len_plainN (ss.map bitsN); simp at this; omega⟩
theorem fld_shelves (S : Int) (ds es : List Nat) (ρ : Env') : fldF "Store" "own_shelves" (storeW' S ds es) ρ = some (.ok (.dat (.int S)) ρ) := by
  simp [storeW', List.lookup]
theorem fld_deliveries (S : Int) (ds es : List Nat) (ρ : Env') : fldF "Store" "own_deliveries" (storeW' S ds es) ρ = some (.ok (.dat (.tuple (natsD ds))) ρ) := by
  have n1 : (("own_deliveries" : Str) == "own_shelves") = false := by decide +kernel
  simp [storeW', List.lookup, n1]
theorem fld_sales (S : Int) (ds es : List Nat) (ρ : Env') : fldF "Store" "own_sales" (storeW' S ds es) ρ = some (.ok (.dat (.tuple (natsD es))) ρ) := by
  have n1 : (("own_sales" : Str) == "own_shelves") = false := by decide +kernel
  have n2 : (("own_sales" : Str) == "own_deliveries") = false := by decide +kernel
  simp [storeW', List.lookup, n1, n2]
theorem store_dat (S : Int) (ds es : List Nat) : isDat (storeW' S ds es) = true := rfl
theorem store_slot (S : Int) (ds es : List Nat) : argSlot (storeW' S ds es) = some (.val (storeW' S ds es)) := rfl
theorem store_outs (S : Int) (ds es : List Nat) (ws : List W) (i : Nat) (ρ : Env') : outsE (storeW' S ds es :: ws) i ρ = outsE ws (i + 1) ρ := rfl
end K46

namespace K46
open PySem PySem.Spec L2 Py
/-! ### draws -/
theorem draw {a b m : Int} (h : PotOk a b) (h0 : 0 < m) (h1 : m < 1073741824) : ∃ v a' b', f__law_draw [.fresh (potC a b), .dat (.int m)] = some (.ret (.dat (.int v)) [potC a' b']) ∧ 0 ≤ v ∧ v < m ∧ PotOk a' b' := by
  obtain ⟨ha, hb, hb2⟩ := h
  have e0 : ixN 2 0 = some 0 := by decide
  have e1 : ixN 2 1 = some 1 := by decide
  by_cases c : 0 < a
  · refine ⟨a % m, a / m, b, ?_, Int.emod_nonneg _ (by omega), Int.emod_lt_of_pos _ h0, Int.ediv_nonneg ha (by omega), hb, hb2⟩
    simp [f__law_draw, gIx, ixF, ix0, c, divF, h0, noPy h0 h1, tupG, consG, ixG, e0, nilG, nmG]
  · have c0 : a = 0 := by omega
    subst c0
    have m1 : mulC b 39541 = true := mulC_small hb (by omega) (by decide) (by decide)
    have hb1 : 0 ≤ (b * 39541 + 7237) % 2147483549 := Int.emod_nonneg _ (by decide)
    have hb3 : (b * 39541 + 7237) % 2147483549 < 2147483549 := Int.emod_lt_of_pos _ (by decide)
    have m2 : mulC ((b * 39541 + 7237) % 2147483549) ((b * 39541 + 7237) % 2147483549) = true := mulC_small hb1 (by omega) hb1 (by omega)
    refine ⟨((b * 39541 + 7237) % 2147483549 * ((b * 39541 + 7237) % 2147483549) % 2147483543 / 23) % m, 0, (b * 39541 + 7237) % 2147483549, ?_, Int.emod_nonneg _ (by omega), Int.emod_lt_of_pos _ h0, by decide, hb1, by omega⟩
    have l13 : Nat.log2 23 < 9000 := by decide
    have hm : m ≠ 0 := by omega
    simp [f__law_draw, gIx, ixF, ix0, ix1, ixG, e1, m1, m2, fm, l13, h0, hm]
theorem pot (ns : List Int) : ∃ a b, f__law_pot [.scr (.sc ns), .dat (.int 0)] = some (.ret (.fresh (potC a b)) []) ∧ PotOk a b := by
  have mk : ∀ c : Int, 0 ≤ c → PotOk (max 0 (c - 10 ^ 18)) ((c % 2147483543 * 40471 + 7237 * 0 + 229) % 2147483549 + 1) := fun c hc => by
    refine ⟨by omega, ?_, ?_⟩ <;> omega
  have bigp : (10 : Int) ^ 18 = 1000000000000000000 := by decide
  have p1 : powC 10 18 = true := by decide
  have m1 : ∀ c : Int, mulC (c % 2147483543) 40471 = true := fun c => mulC_small (by omega) (by omega) (by decide) (by decide)
  have m2 : mulC 947 0 = true := by decide
  have m3 : mulC 7237 0 = true := by decide
  have mx : ∀ c : Int, (if 0 < c - 1000000000000000000 then c - 1000000000000000000 else 0) = max 0 (c - 10 ^ 18) := fun c => by
    rw [bigp]
    split <;> omega
  by_cases hl : (0 : Int) < (ns.length : Nat)
  · have hn : (0 : Int).toNat < ns.length := by omega
    have ha : atI (ns.map PyData.int) 0 = some (.int ns[(0 : Int).toNat]) := by
      rw [atI_map, atI_get (by decide) hn]
      rfl
    have hl2 : 0 < ns.length := by omega
    refine ⟨_, _, ?_, mk (if ns[(0 : Int).toNat] < 0 then -ns[(0 : Int).toNat] else ns[(0 : Int).toNat]) (by split <;> omega)⟩
    simp at ha
    simp [f__law_pot, m3, m2, hl2, ha, p1, bigp, fm, m1, lstF, lim, gIx_at, mx]
    generalize (if ns[0] < 0 then -ns[0] else ns[0]) = c
    split <;> omega
  · have hl2 : ¬ 0 < ns.length := by omega
    refine ⟨_, _, ?_, mk 853 (by omega)⟩
    have m4 : mulC 853 40471 = true := by decide
    simp [f__law_pot, m3, m2, m4, hl2, p1, bigp, fm, m1, lstF, lim, mx]
    omega
/-! ### the world -/
theorem kind {a b S : Int} (h : PotOk a b) (h0 : 2 ≤ S) (h1 : S ≤ 8) : ∃ r a' b', f__law_kind [.fresh (potC a b), .dat (.int S)] = some (.ret (.fresh (.lst (r.map PyData.int))) [potC a' b']) ∧ KindOk S r ∧ PotOk a' b' := by
  obtain ⟨u, a1, b1, ed, u0, u1, hp1⟩ := draw (m := S) h (by omega) (by omega)
  obtain ⟨m, a2, b2, em, m0, m1, hp2⟩ := draw (m := 3) hp1 (by decide) (by decide)
  obtain ⟨⟨⟨a3, b3⟩, r, x4⟩, y, ⟨hp3, hk, hl, f4⟩, hy, e1⟩ := for_inv (f := nmG 3) (b := B__law_kind_1) (fun i : Nat => PyData.int (i : Nat))
    (fun (z : (Int × Int) × List Int × Option Slot) x => [some (.ref (potC z.1.1 z.1.2)), some (.val (.dat (.int S))), some (.own (.lst (z.2.1.map PyData.int))), x, z.2.2])
    (fun k z => PotOk z.1.1 z.1.2 ∧ KindOk S z.2.1 ∧ z.2.1.length ≤ k + 1 ∧ Free z.2.2) (List.range m.toNat) 0
    (fun j i hj z x ⟨hp, hk, hl, f4⟩ hx => by
      obtain ⟨⟨a, b⟩, r, x4⟩ := z
      dsimp only at hp hk hl f4
      have hjm : j < 3 := by
        have := (List.getElem?_eq_some_iff.mp hj).1
        simp at this
        omega
      obtain ⟨s, a4, b4, es, s0, s1, hp4⟩ := draw (m := S) hp (by omega) (by omega)
      by_cases hs : s ∈ r
      · refine ⟨((a4, b4), r, some (.val (.dat (.int s)))), _, ⟨hp4, hk, by simp at hl ⊢; omega, free_val (.dat (.int s))⟩, free_val (.dat (.int (i : Nat))), .inl ?_⟩
        have hin : ∀ x3 x4, gNotInT (.dat (.int s)) (.own 2) [some (.ref (potC a4 b4)), some (.val (.dat (.int S))), some (.own (.lst (r.map PyData.int))), x3, x4] = some (.ok (.dat (.bool false)) [some (.ref (potC a4 b4)), some (.val (.dat (.int S))), some (.own (.lst (r.map PyData.int))), x3, x4]) := fun x3 x4 => by
          rw [gNotInT_of (ds := r.map PyData.int) rfl rfl (by simp) (by simp), Py.any_ints]
          simp [hs]
        simp [B__law_kind_1, hx, f4, es, hin]
      · refine ⟨((a4, b4), r ++ [s], some (.val (.dat (.int s)))), _, ⟨hp4, ⟨by simp, List.nodup_append.mpr ⟨hk.2.1, by simp, fun x hx y hy e => by simp at hy; subst hy e; exact hs hx⟩, fun n hn => ?_⟩, by simp at hl ⊢; omega, free_val (.dat (.int s))⟩, free_val (.dat (.int (i : Nat))), .inl ?_⟩
        · rcases List.mem_append.mp hn with hn | hn
          · exact hk.2.2 n hn
          · simp at hn; subst hn; exact ⟨s0, s1⟩
        have hin : ∀ x3 x4, gNotInT (.dat (.int s)) (.own 2) [some (.ref (potC a4 b4)), some (.val (.dat (.int S))), some (.own (.lst (r.map PyData.int))), x3, x4] = some (.ok (.dat (.bool true)) [some (.ref (potC a4 b4)), some (.val (.dat (.int S))), some (.own (.lst (r.map PyData.int))), x3, x4]) := fun x3 x4 => by
          rw [gNotInT_of (ds := r.map PyData.int) rfl rfl (by simp) (by simp), Py.any_ints]
          simp [hs]
        have app : ∀ x3 x4, appF (.own 2) [.dat (.int s)] [some (.ref (potC a4 b4)), some (.val (.dat (.int S))), some (.own (.lst (r.map PyData.int))), x3, x4] = some (.ok (.dat .none) [some (.ref (potC a4 b4)), some (.val (.dat (.int S))), some (.own (.lst (r.map PyData.int ++ [.int s]))), x3, x4]) := fun x3 x4 => by
          rw [appF_own _ rfl (by simp [lim]; omega)]
          simp
        simp [B__law_kind_1, hx, f4, es, hin, app])
    ((a2, b2), [u], none) none ⟨hp2, ⟨by simp, by simp, by simpa using ⟨u0, u1⟩⟩, by simp, free_none⟩ free_none
  have hrng := fun ρ => rng1_map (j := m) (ρ := ρ) m0 (by omega)
  refine ⟨r, a3, b3, ?_, hk, hp3⟩
  simp at e1
  simp [f__law_kind, ed, em, lstF, lim, hrng, e1]
theorem gNe_own {ρ : Env'} {i : Nat} {ds : List D} (h : ρ[i]? = some (some (.own (.lst ds)))) (hs : SeqAt.shaped (.list ds) = true) : gNe (.own i) (.fresh (.lst [])) ρ = some (.ok (.dat (.bool (!decide (ds = [])))) ρ) := by
  rw [gNe_of (x := .list ds) (y := .list []) (by rw [view_own h]; rfl) rfl hs (by simp)]
  cases ds <;> simp [PyData.eqv, PyData.eqvAll]
theorem worldLoop {S : Int} {k : Int} (h0 : 2 ≤ S) (h1 : S ≤ 8) (k0 : 0 ≤ k) (k4 : k ≤ 4) {a b : Int} (h : PotOk a b) (x4 : Option Slot) :
    ∃ rs a' b' y, forL (nmG 5) B__law_world_1 ((List.range k.toNat).map fun i : Nat => .int (i : Nat)) [some (.ref (potC a b)), some (.val (.dat (.int 5))), some (.val (.dat (.int S))), some (.own (.lst [])), x4, none] =
      some (.nx [some (.ref (potC a' b')), some (.val (.dat (.int 5))), some (.val (.dat (.int S))), some (.own (.lst (rs.map rowD))), x4, y]) ∧ KindsOk S rs ∧ rs.length ≤ 4 ∧ PotOk a' b' ∧ Free y := by
  obtain ⟨⟨⟨a3, b3⟩, rs⟩, y, ⟨hp3, hk, hl⟩, hy, e1⟩ := for_inv (f := nmG 5) (b := B__law_world_1) (fun i : Nat => PyData.int (i : Nat))
    (fun (z : (Int × Int) × List (List Int)) x => [some (.ref (potC z.1.1 z.1.2)), some (.val (.dat (.int 5))), some (.val (.dat (.int S))), some (.own (.lst (z.2.map rowD))), x4, x])
    (fun k z => PotOk z.1.1 z.1.2 ∧ KindsOk S z.2 ∧ z.2.length = k) (List.range k.toNat) 0
    (fun j i hj z x ⟨hp, hk, hl⟩ hx => by
      obtain ⟨⟨a, b⟩, rs⟩ := z
      dsimp only at hp hk hl
      have hjm : j < 4 := by
        have := (List.getElem?_eq_some_iff.mp hj).1
        simp at this
        omega
      obtain ⟨r, a4, b4, er, hr, hp4⟩ := kind hp h0 h1
      have app : ∀ x5, appF (.own 3) [.dat (.list (r.map PyData.int))] [some (.ref (potC a4 b4)), some (.val (.dat (.int 5))), some (.val (.dat (.int S))), some (.own (.lst (rs.map rowD))), x4, x5] = some (.ok (.dat .none) [some (.ref (potC a4 b4)), some (.val (.dat (.int 5))), some (.val (.dat (.int S))), some (.own (.lst ((rs ++ [r]).map rowD))), x4, x5]) := fun x5 => by
        rw [appF_own _ rfl (by simp [lim]; omega)]
        simp
      refine ⟨((a4, b4), rs ++ [r]), _, ⟨hp4, fun q hq => ?_, by simp at hl ⊢; omega⟩, free_val (.dat (.int (i : Nat))), .inl ?_⟩
      · rcases List.mem_append.mp hq with hq | hq
        · exact hk q hq
        · simp at hq; subst hq; exact hr
      · simp [-List.map_append, B__law_world_1, hx, er, app])
    ((a, b), []) none ⟨h, (fun _ z => nomatch z : KindsOk S []), rfl⟩ free_none
  refine ⟨rs, a3, b3, y, by simpa using e1, hk, by simp at hl; omega, hp3, hy⟩
theorem worldLoop2 {S : Int} {k : Int} {rs : List (List Int)} (h0 : 2 ≤ S) (h1 : S ≤ 8) (k0 : 0 ≤ k) (k4 : k ≤ 3) {a b : Int} (h : PotOk a b) (x : Option Slot) (hx : Free x) :
    ∃ ss a' b' y, forL (nmG 5) B__law_world_2 ((List.range k.toNat).map fun i : Nat => .int (i : Nat)) [some (.ref (potC a b)), some (.val (.dat (.int 5))), some (.val (.dat (.int S))), some (.own (.lst (rs.map rowD))), some (.own (.lst [])), x] =
      some (.nx [some (.ref (potC a' b')), some (.val (.dat (.int 5))), some (.val (.dat (.int S))), some (.own (.lst (rs.map rowD))), some (.own (.lst (ss.map rowD))), y]) ∧ KindsOk S ss ∧ ss.length ≤ 3 ∧ PotOk a' b' ∧ Free y := by
  obtain ⟨⟨⟨a3, b3⟩, ss⟩, y, ⟨hp3, hk, hl⟩, hy, e1⟩ := for_inv (f := nmG 5) (b := B__law_world_2) (fun i : Nat => PyData.int (i : Nat))
    (fun (z : (Int × Int) × List (List Int)) x => [some (.ref (potC z.1.1 z.1.2)), some (.val (.dat (.int 5))), some (.val (.dat (.int S))), some (.own (.lst (rs.map rowD))), some (.own (.lst (z.2.map rowD))), x])
    (fun k z => PotOk z.1.1 z.1.2 ∧ KindsOk S z.2 ∧ z.2.length = k) (List.range k.toNat) 0
    (fun j i hj z x ⟨hp, hk, hl⟩ hx => by
      obtain ⟨⟨a, b⟩, ss⟩ := z
      dsimp only at hp hk hl
      have hjm : j < 4 := by
        have := (List.getElem?_eq_some_iff.mp hj).1
        simp at this
        omega
      obtain ⟨r, a4, b4, er, hr, hp4⟩ := kind hp h0 h1
      have app : ∀ x5, appF (.own 4) [.dat (.list (r.map PyData.int))] [some (.ref (potC a4 b4)), some (.val (.dat (.int 5))), some (.val (.dat (.int S))), some (.own (.lst (rs.map rowD))), some (.own (.lst (ss.map rowD))), x5] = some (.ok (.dat .none) [some (.ref (potC a4 b4)), some (.val (.dat (.int 5))), some (.val (.dat (.int S))), some (.own (.lst (rs.map rowD))), some (.own (.lst ((ss ++ [r]).map rowD))), x5]) := fun x5 => by
        rw [appF_own _ rfl (by simp [lim]; omega)]
        simp
      refine ⟨((a4, b4), ss ++ [r]), _, ⟨hp4, fun q hq => ?_, by simp at hl ⊢; omega⟩, free_val (.dat (.int (i : Nat))), .inl ?_⟩
      · rcases List.mem_append.mp hq with hq | hq
        · exact hk q hq
        · simp at hq; subst hq; exact hr
      · simp [-List.map_append, B__law_world_2, hx, er, app])
    ((a, b), []) x ⟨h, (fun _ z => nomatch z : KindsOk S []), rfl⟩ hx
  refine ⟨ss, a3, b3, y, by simpa using e1, hk, by simp at hl; omega, hp3, hy⟩
theorem world {a b : Int} (h : PotOk a b) : ∃ S rs ss a' b', f__law_world [.fresh (potC a b), .dat (.int 5)] = some (.ret (.dat (.tuple [.int S, .list (rs.map rowD), .list (ss.map rowD)])) [potC a' b']) ∧ 2 ≤ S ∧ S ≤ 5 ∧ KindsOk S rs ∧ rs.length ≤ 4 ∧ KindsOk S ss ∧ ss.length ≤ 4 ∧ PotOk a' b' := by
  obtain ⟨m, a1, b1, ed, m0, m1, hp1⟩ := draw (m := 4) h (by decide) (by decide)
  obtain ⟨S, hS⟩ : ∃ S, S = 2 + m := ⟨_, rfl⟩
  obtain ⟨k, a2, b2, ek, k0, k1, hp2⟩ := draw (m := 5) hp1 (by decide) (by decide)
  obtain ⟨rs, a3, b3, y, e1, hk, hl, hp3, hy⟩ := worldLoop (S := S) (by omega) (by omega) k0 (by omega) hp2 (some (.own (.lst [])))
  obtain ⟨k', a4, b4, ek', k0', k1', hp4⟩ := draw (m := 4) hp3 (by decide) (by decide)
  obtain ⟨ss, a5, b5, y2, e2, hk2, hl2, hp5, hy2⟩ := worldLoop2 (S := S) (rs := rs) (by omega) (by omega) k0' (by omega) hp4 y hy
  have r1 := fun ρ => rng1_map (j := k) (ρ := ρ) k0 (by omega)
  have r2 := fun ρ => rng1_map (j := k') (ρ := ρ) k0' (by omega)
  have hs : ∀ ρ, gAdd (.dat (.int 2)) (.dat (.int m)) ρ = some (.ok (.dat (.int S)) ρ) := fun ρ => by simp [hS]
  have ne : gNe (.own 3) (.fresh (.lst [])) [some (.ref (potC a5 b5)), some (.val (.dat (.int 5))), some (.val (.dat (.int S))), some (.own (.lst (rs.map rowD))), some (.own (.lst (ss.map rowD))), y2] = some (.ok (.dat (.bool (!decide (rs.map rowD = [])))) [some (.ref (potC a5 b5)), some (.val (.dat (.int 5))), some (.val (.dat (.int S))), some (.own (.lst (rs.map rowD))), some (.own (.lst (ss.map rowD))), y2]) := gNe_own rfl (by simp)
  by_cases hr : rs = []
  · subst hr
    refine ⟨S, [], ss, a5, b5, ?_, by omega, by omega, hk, by simp, hk2, by omega, hp5⟩
    simp at ne e1 e2
    simp [f__law_world, ed, ek, ek', hs, lstF, lim, r1, r2, e1, e2, ne, tupF]
  · obtain ⟨d, a6, b6, e6, d0, d1, hp6⟩ := draw (m := 3) hp5 (by decide) (by decide)
    have ne2 : ¬ rs.map rowD = [] := by simpa using hr
    by_cases hd : d = 0
    · obtain ⟨r0, rs', rfl⟩ := List.exists_cons_of_ne_nil hr
      refine ⟨S, r0 :: rs', ss ++ [r0], a6, b6, ?_, by omega, by omega, hk, hl, fun q hq => ?_, by simp; omega, hp6⟩
      · have ix : ∀ x5, gIx (.own 3) (.dat (.int 0)) [some (.ref (potC a6 b6)), some (.val (.dat (.int 5))), some (.val (.dat (.int S))), some (.own (.lst ((r0 :: rs').map rowD))), some (.own (.lst (ss.map rowD))), x5] = some (.ok (.dat (rowD r0)) [some (.ref (potC a6 b6)), some (.val (.dat (.int 5))), some (.val (.dat (.int S))), some (.own (.lst ((r0 :: rs').map rowD))), some (.own (.lst (ss.map rowD))), x5]) := fun x5 => by
          rw [gIx_at, viewS_own, view_own (c := .lst ((r0 :: rs').map rowD)) rfl]
          simp [atI_get (xs := rowD r0 :: rs'.map rowD) (i := 0) (by decide) (by simp)]
        have app : ∀ x5, appF (.own 4) [.dat (.list (r0.map PyData.int))] [some (.ref (potC a6 b6)), some (.val (.dat (.int 5))), some (.val (.dat (.int S))), some (.own (.lst ((r0 :: rs').map rowD))), some (.own (.lst (ss.map rowD))), x5] = some (.ok (.dat .none) [some (.ref (potC a6 b6)), some (.val (.dat (.int 5))), some (.val (.dat (.int S))), some (.own (.lst ((r0 :: rs').map rowD))), some (.own (.lst ((ss ++ [r0]).map rowD))), x5]) := fun x5 => by
          rw [appF_own _ rfl (by simp [lim]; omega)]
          simp
        generalize (ss ++ [r0]).map rowD = SS' at *
        generalize (r0 :: rs').map rowD = RS at *
        simp [f__law_world, ed, ek, ek', hs, lstF, lim, r1, r2, e1, e2, ne, ne2, e6, hd, tupF, ix, app, rowD]
      · rcases List.mem_append.mp hq with hq | hq
        · exact hk2 q hq
        · simp at hq; subst hq; exact hk q (by simp)
    · refine ⟨S, rs, ss, a6, b6, ?_, by omega, by omega, hk, hl, hk2, by omega, hp6⟩
      generalize rs.map rowD = RS at *
      simp [f__law_world, ed, ek, ek', hs, lstF, lim, r1, r2, e1, e2, ne, ne2, e6, hd, tupF]
end K46

namespace K46
open PySem PySem.Spec L2 Py
def rowOf (d : D) : List Int := (seqOf d).map toI
@[simp] theorem rowOf_row (r : List Int) : rowOf (rowD r) = r := by simp [rowOf, List.map_map, Function.comp_def, toI]
@[simp] theorem rowOf_list (r : List Int) : rowOf (.list (r.map PyData.int)) = r := rowOf_row r
def laid (l k : List Int) : List Int := sortI (l ++ k.filter fun x => !decide (x ∈ l))
def off (l k : List Int) : List Int := l.filter fun x => !decide (x ∈ k)
def Good (S : Int) (l : List Int) : Prop := l.Pairwise (· < ·) ∧ ∀ n ∈ l, 0 ≤ n ∧ n < S
theorem good_eq {S : Int} {l m : List Int} (h : Good S l) (k : Good S m) (e : bitsN l = bitsN m) : l = m :=
  lt_unique h.1 k.1 (bits_inj (fun n hn => (h.2 n hn).1) (fun n hn => (k.2 n hn).1) e)
theorem mem_laid {l k : List Int} {x : Int} : x ∈ laid l k ↔ x ∈ l ∨ x ∈ k := by
  unfold laid
  rw [mem_sortI]
  simp only [List.mem_append, List.mem_filter, Bool.not_eq_true', decide_eq_false_iff_not]
  by_cases h : x ∈ l <;> simp [h]
theorem mem_off {l k : List Int} {x : Int} : x ∈ off l k ↔ x ∈ l ∧ x ∉ k := by
  unfold off
  simp [List.mem_filter]
theorem good_laid {S : Int} {l k : List Int} (h : Good S l) (hk : Good S k) : Good S (laid l k) := by
  have nd : (l ++ k.filter fun x => !decide (x ∈ l)).Nodup := by
    rw [List.nodup_append]
    refine ⟨h.1.imp fun h => Int.ne_of_lt h, (hk.1.imp fun h => Int.ne_of_lt h).filter _, fun x hx y hy e => ?_⟩
    have := (List.mem_filter.mp hy).2
    subst e
    simp [hx] at this
  refine ⟨by unfold laid; rw [sortI_nodup nd]; exact sortU_lt _, fun n hn => ?_⟩
  rcases mem_laid.mp hn with hn | hn
  · exact h.2 n hn
  · exact hk.2 n hn
theorem good_off {S : Int} {l k : List Int} (h : Good S l) : Good S (off l k) := ⟨h.1.filter _, fun n hn => h.2 n (mem_off.mp hn).1⟩
theorem good_nil (S : Int) : Good S [] := ⟨.nil, by simp⟩
theorem nn {S : Int} {l : List Int} (h : Good S l) : ∀ n ∈ l, 0 ≤ n := fun n hn => (h.2 n hn).1
theorem good_sort {S : Int} {l : List Int} (h : Good S l) : sortI l = l := by
  rw [sortI_nodup (h.1.imp fun h => Int.ne_of_lt h)]
  exact lt_unique (sortU_lt l) h.1 fun x => mem_sortU
theorem good_len {S : Int} {l : List Int} (h : Good S l) (h1 : S ≤ 8) : l.length ≤ 8 := in_range_len (h.1.imp fun h => Int.ne_of_lt h) fun n hn => by have := h.2 n hn; omega
/-! ### steps -/
/-- a step: lay or off, and where -/
def stepI : D → Option (Bool × Nat)
  | .tuple [.str w, .int i] => if 0 ≤ i then (if w = "lay" then some (true, i.toNat) else if w = "off" then some (false, i.toNat) else none) else none
  | _ => none
def stepOk (nd ne : Nat) (d : D) : Bool := match stepI d with
  | some (true, i) => decide (i < nd)
  | some (false, i) => decide (i < ne)
  | none => false
theorem fld_len_d (S : Int) (ds es : List Nat) (ρ : Env') : fldF "Store" "own_deliveries" (storeW' S ds es) ρ = some (.ok (.dat (.tuple (natsD ds))) ρ) := fld_deliveries S ds es ρ
theorem lay_off : ¬ ("off" : Str) = "lay" := by decide +kernel
theorem step_not {nd ne : Nat} (l : List D) (h : ¬ ∃ w i, l = [.str w, .int i]) : stepOk nd ne (.tuple l) = false := by
  unfold stepOk stepI
  split
  · rename_i e
    split at e
    · rename_i e2
      cases e2
      exact absurd ⟨_, _, rfl⟩ h
    · cases e
  · rename_i e
    split at e
    · rename_i e2
      cases e2
      exact absurd ⟨_, _, rfl⟩ h
    · cases e
  · rfl
/-! ### rows -/
def rowB (nd ne : Nat) (v : D) : Bool := isSeq v && decide ((seqOf v).length ≤ 60) && (seqOf v).all (stepOk nd ne)
/-- the steps of a row -/
def stepD (p : Bool × Nat) : D := .tuple [.str (if p.1 then "lay" else "off"), .int (p.2 : Nat)]
theorem stepI_eq {d : D} {p : Bool × Nat} (h : stepI d = some p) : d = stepD p := by
  unfold stepI at h
  split at h
  · rename_i w i
    split at h
    · rename_i hi
      split at h
      · rename_i hw
        cases h
        subst hw
        simp only [stepD, if_true]
        rw [show ((i.toNat : Nat) : Int) = i by omega]
      · split at h
        · rename_i hw
          cases h
          subst hw
          simp only [stepD, if_false, Bool.false_eq_true]
          rw [show ((i.toNat : Nat) : Int) = i by omega]
        · cases h
    · cases h
  · cases h
def stepsOf (v : D) : List (Bool × Nat) := (seqOf v).filterMap stepI
def goodP (nd ne : Nat) (p : Bool × Nat) : Prop := p.2 < if p.1 then nd else ne
theorem steps_ok {nd ne : Nat} : ∀ {l : List D}, l.all (stepOk nd ne) = true → l = (l.filterMap stepI).map stepD ∧ ∀ p ∈ l.filterMap stepI, goodP nd ne p
  | [], _ => by simp
  | d :: l, h => by
    simp only [List.all_cons, Bool.and_eq_true] at h
    obtain ⟨e, g⟩ := steps_ok h.2
    cases hd : stepI d with
    | none => simp [stepOk, hd] at h
    | some p =>
      rw [List.filterMap_cons_some hd]
      refine ⟨by rw [List.map_cons, ← e, ← stepI_eq hd], fun q hq => ?_⟩
      rcases List.mem_cons.mp hq with rfl | hq
      · have := h.1
        unfold stepOk at this
        rw [hd] at this
        obtain ⟨b, i⟩ := q
        cases b <;> simpa [goodP] using this
      · exact g q hq
def stepL (rs ss : List (List Int)) (l : List Int) (p : Bool × Nat) : List Int := if p.1 then laid l (getR rs p.2) else off l (getR ss p.2)
def endL (rs ss : List (List Int)) (ps : List (Bool × Nat)) : List Int := ps.foldl (stepL rs ss) []
theorem good_step {S : Int} {rs ss : List (List Int)} {l : List Int} {p : Bool × Nat} (hr : ∀ r ∈ rs, Good S r) (h : Good S l) (hp : goodP rs.length ss.length p) : Good S (stepL rs ss l p) := by
  obtain ⟨b, i⟩ := p
  cases b with
  | false => exact good_off h
  | true => exact good_laid h (hr _ (getR_mem (by simpa [goodP] using hp)))
theorem good_endL {S : Int} {rs ss : List (List Int)} (hr : ∀ r ∈ rs, Good S r) : ∀ {ps : List (Bool × Nat)} {l : List Int}, (∀ p ∈ ps, goodP rs.length ss.length p) → Good S l → Good S (ps.foldl (stepL rs ss) l)
  | [], _, _, h => h
  | p :: ps, l, hp, h => by
    rw [List.foldl_cons]
    exact good_endL hr (fun q hq => hp q (by simp [hq])) (good_step hr h (hp p (by simp)))
theorem gIx_nats {ρ : Env'} {rs : List (List Int)} {i : Nat} (h : i < rs.length) : gIx (.dat (.tuple (natsD (rs.map bitsN)))) (.dat (.int (i : Nat))) ρ = some (.ok (.dat (.int (bitsN (getR rs i) : Nat))) ρ) := by
  rw [gIx_at]
  have e : natsD (rs.map bitsN) = rs.map fun r => PyData.int (bitsN r : Nat) := by simp [natsD]
  simp [e, atI_map, atI_get (xs := rs) (i := (i : Nat)) (by omega) (by simpa using h), getR, h, List.getD_eq_getElem?_getD]
/-! ### the law's own -/
theorem fold_fm {rs ss : List (List Int)} : ∀ (l : List D) (h : List Int), l.foldl (fun h d => match stepI d with
    | some p => stepL rs ss h p
    | none => h) h = (l.filterMap stepI).foldl (stepL rs ss) h
  | [], _ => rfl
  | d :: l, h => by
    cases e : stepI d with
    | none => simp only [List.foldl_cons, List.filterMap_cons_none e, e]; exact fold_fm l h
    | some p => simp only [List.foldl_cons, List.filterMap_cons_some e, e]; exact fold_fm l _
def WordsOk (v : D) : Prop := ∀ w x, .tuple [.str w, x] ∈ seqOf v → StrOk w
/-! ### told kinds -/
def tellS (T : List (List Int)) (x : List Int) : List (List Int) := if x ∈ T then T else T ++ [x]
def told (rs : List (List Int)) : List (List Int) := (sortR (rs.map sortI)).foldl tellS []
theorem tell_fold : ∀ (l T : List (List Int)), T.Pairwise (· < ·) → l.Pairwise (· ≤ ·) → (∀ t ∈ T, ∀ x ∈ l, t ≤ x) → (l.foldl tellS T).Pairwise (· < ·) ∧ (∀ x, x ∈ l.foldl tellS T ↔ x ∈ T ∨ x ∈ l) ∧ (l.foldl tellS T).length ≤ T.length + l.length
  | [], T, h, _, _ => ⟨h, by simp, by simp⟩
  | x :: l, T, h, hl, ht => by
    rw [List.pairwise_cons] at hl
    by_cases hx : x ∈ T
    · have e : tellS T x = T := if_pos hx
      obtain ⟨h1, h2, h3⟩ := tell_fold l T h hl.2 fun t hT y hy => ht t hT y (by simp [hy])
      rw [List.foldl_cons, e]
      refine ⟨h1, fun y => ?_, by simp; omega⟩
      rw [h2, List.mem_cons]
      constructor
      · rintro (h | h)
        · exact .inl h
        · exact .inr (.inr h)
      · rintro (h | rfl | h)
        · exact .inl h
        · exact .inl hx
        · exact .inr h
    · have e : tellS T x = T ++ [x] := if_neg hx
      have hp : (T ++ [x]).Pairwise (· < ·) := by
        rw [List.pairwise_append]
        refine ⟨h, by simp, fun a ha b hb => ?_⟩
        simp at hb
        subst hb
        exact Classical.byContradiction fun z => hx (List.le_antisymm (ht a ha b (by simp)) (List.not_lt.mp z) ▸ ha)
      obtain ⟨h1, h2, h3⟩ := tell_fold l (T ++ [x]) hp hl.2 fun t hT y hy => by
        rcases List.mem_append.mp hT with hT | hT
        · exact ht t hT y (by simp [hy])
        · simp at hT
          subst hT
          exact hl.1 y hy
      rw [List.foldl_cons, e]
      refine ⟨h1, fun y => ?_, by simp at h3 ⊢; omega⟩
      rw [h2, List.mem_append, List.mem_singleton, List.mem_cons, or_assoc]
theorem told_ok (rs : List (List Int)) : (told rs).Pairwise (· < ·) ∧ (∀ x, x ∈ told rs ↔ ∃ r ∈ rs, sortI r = x) ∧ (told rs).length ≤ rs.length := by
  obtain ⟨h1, h2, h3⟩ := tell_fold (sortR (rs.map sortI)) [] .nil (sortR_le _) (fun _ z => nomatch z)
  refine ⟨h1, fun x => ?_, by simp at h3; exact h3⟩
  show x ∈ (sortR (rs.map sortI)).foldl tellS [] ↔ _
  rw [h2, mem_sortR, List.mem_map]
  simp
theorem told_good {S : Int} {rs : List (List Int)} (hk : KindsOk S rs) : ∀ r ∈ told rs, Good S r := fun x hx => by
  obtain ⟨r, hr, rfl⟩ := ((told_ok rs).2.1 x).mp hx
  refine ⟨?_, fun n hn => (hk r hr).2.2 n (mem_sortI.mp hn)⟩
  rw [sortI_nodup (hk r hr).2.1]
  exact sortU_lt _
theorem F_told {S : Int} {rs : List (List Int)} (h1 : S ≤ 8) (hk : KindsOk S rs) (hl : rs.length ≤ 8) : f__law_told [.dat (.list (rs.map rowD))] = some (.ret (.fresh (.lst ((told rs).map rowD))) []) := by
  have e1 := lc_nm (i := 3) (s := seqI (vS 0)) (e := hrd (callS (cL sortF2) (consS (vS 3) nilS))) (ρ := [some (.val (.dat (.list (rs.map rowD)))), some (.own (.lst [])), none, none]) rs rowD (fun r => rowD (sortI r)) (by simp) rfl free_none (fun r hr => by
    have h8 := kind_len (hk r hr) h1
    have : sortF2 [.list (r.map PyData.int)] = some ((sortI r).map PyData.int) := sortF_ints (by simp [lim]; omega)
    simp [rowD, this]) (by simp [lim]; omega)
  rw [show rs.map (fun r => rowD (sortI r)) = (rs.map sortI).map rowD by simp] at e1
  have e2 : sortF2 [.list ((rs.map sortI).map rowD)] = some ((sortR (rs.map sortI)).map rowD) := sortF_rows (by simp [lim]; omega)
  have lR : (sortR (rs.map sortI)).length ≤ 8 := by simpa using hl
  obtain ⟨⟨T, n⟩, y, ⟨hT, hn⟩, hy, e3⟩ := for_inv (f := nmG 2) (b := B__law_told_1) rowD
    (fun (z : List (List Int) × Nat) x => [some (.val (.dat (.list (rs.map rowD)))), some (.own (.lst (z.1.map rowD))), x, none])
    (fun k z => z.1 = ((sortR (rs.map sortI)).take k).foldl tellS [] ∧ z.1.length ≤ k) (sortR (rs.map sortI)) 0
    (fun j r hj z x ⟨hT, hn⟩ hx => by
      obtain ⟨T, n⟩ := z
      dsimp only at hT hn
      have hj2 := (List.getElem?_eq_some_iff.mp hj).1
      have et : ((sortR (rs.map sortI)).take (0 + j + 1)).foldl tellS [] = tellS T r := by
        rw [show 0 + j + 1 = j + 1 by omega, List.take_add_one, hj, List.foldl_append, show j = 0 + j by omega, ← hT]
        rfl
      by_cases hm : r ∈ T
      · refine ⟨(T, n), _, ⟨by rw [et]; exact (if_pos hm).symm, by omega⟩, free_val (.dat (rowD r)), .inl ?_⟩
        have hin : gNotInT (.dat (rowD r)) (.own 1) [some (.val (.dat (.list (rs.map rowD)))), some (.own (.lst (T.map rowD))), some (.val (.dat (rowD r))), none] = some (.ok (.dat (.bool false)) [some (.val (.dat (.list (rs.map rowD)))), some (.own (.lst (T.map rowD))), some (.val (.dat (rowD r))), none]) := by
          rw [gNotInT_of (ds := T.map rowD) rfl rfl (by simp) (by simp), any_rows]
          simp [hm]
        simp [B__law_told_1, hx, hin]
      · refine ⟨(T ++ [r], n), _, ⟨by rw [et]; exact (if_neg hm).symm, by simp; omega⟩, free_val (.dat (rowD r)), .inl ?_⟩
        have hin : gNotInT (.dat (rowD r)) (.own 1) [some (.val (.dat (.list (rs.map rowD)))), some (.own (.lst (T.map rowD))), some (.val (.dat (rowD r))), none] = some (.ok (.dat (.bool true)) [some (.val (.dat (.list (rs.map rowD)))), some (.own (.lst (T.map rowD))), some (.val (.dat (rowD r))), none]) := by
          rw [gNotInT_of (ds := T.map rowD) rfl rfl (by simp) (by simp), any_rows]
          simp [hm]
        have app : appF (.own 1) [.dat (rowD r)] [some (.val (.dat (.list (rs.map rowD)))), some (.own (.lst (T.map rowD))), some (.val (.dat (rowD r))), none] = some (.ok (.dat .none) [some (.val (.dat (.list (rs.map rowD)))), some (.own (.lst ((T ++ [r]).map rowD))), some (.val (.dat (rowD r))), none]) := by
          rw [appF_own (rowD r) rfl (by simp [lim]; omega)]
          simp
        generalize (T ++ [r]).map rowD = T2 at *
        simp [B__law_told_1, hx, hin, app])
    ([], 0) none ⟨by simp, by simp⟩ free_none
  have hT2 : T = told rs := by
    have : T = ((sortR (rs.map sortI)).take (0 + (sortR (rs.map sortI)).length)).foldl tellS [] := hT
    rw [Nat.zero_add, List.take_length] at this
    exact this
  subst hT2
  simp only [List.map_nil] at e3
  simp [-List.map_map, f__law_told, lstF, lim, e1, e2, e3]
end K46

namespace K46
open PySem PySem.Spec L2 Py
/-! ### the store, the plain -/
def storeC (S : Int) (ds es : List Nat) : Cell := .ins "Store" [("own_shelves", some (.int S)), ("own_deliveries", some (.tuple (natsD ds))), ("own_sales", some (.tuple (natsD es))), ("own_kept", none)]
theorem storeC_hard (S : Int) (ds es : List Nat) : hardW (.fresh (storeC S ds es)) = some (storeW' S ds es) := rfl
theorem F_law_store {S : Int} {rs ss : List (List Int)} (h0 : 2 ≤ S) (h1 : S ≤ 8) (hk : KindsOk S rs) (hl : rs.length ≤ 8) (hk2 : KindsOk S ss) (hl2 : ss.length ≤ 8) : f__law_store [.dat (.tuple [.int S, .list (rs.map rowD), .list (ss.map rowD)])] = some (.ret (.fresh (storeC S ((told rs).map bitsN) ((told ss).map bitsN))) []) := by
  have e2 := store_init' h0 h1 hk hl hk2 hl2
  have pl : ∀ {rs : List (List Int)}, KindsOk S rs → plainN (rs.map bitsN) = (told rs).map bitsN := fun {rs} k => plainN_told h1 (fun r hr => ⟨(k r hr).2.1, (k r hr).2.2⟩) (told_ok rs).1 (told_ok rs).2.1
  rw [pl hk, pl hk2] at e2
  simp only [rowsD] at e2
  have i0 : ∀ ρ, gIx (.dat (.tuple [.int S, .list (rs.map rowD), .list (ss.map rowD)])) (.dat (.int 0)) ρ = some (.ok (.dat (.int S)) ρ) := fun ρ => rfl
  have i1 : ∀ ρ, gIx (.dat (.tuple [.int S, .list (rs.map rowD), .list (ss.map rowD)])) (.dat (.int 1)) ρ = some (.ok (.dat (.list (rs.map rowD))) ρ) := fun ρ => rfl
  have i2 : ∀ ρ, gIx (.dat (.tuple [.int S, .list (rs.map rowD), .list (ss.map rowD)])) (.dat (.int 2)) ρ = some (.ok (.dat (.list (ss.map rowD))) ρ) := fun ρ => rfl
  simp [f__law_store, i0, i1, i2, e2]
  rfl
def plD (S : Int) (rs ss : List (List Int)) : D := .tuple [.int S, .list (rs.map rowD), .list (ss.map rowD)]
theorem pl0 (S : Int) (rs ss : List (List Int)) (ρ : Env') : gIx (.dat (plD S rs ss)) (.dat (.int 0)) ρ = some (.ok (.dat (.int S)) ρ) := rfl
theorem pl1 (S : Int) (rs ss : List (List Int)) (ρ : Env') : gIx (.dat (plD S rs ss)) (.dat (.int 1)) ρ = some (.ok (.dat (.list (rs.map rowD))) ρ) := rfl
theorem pl2 (S : Int) (rs ss : List (List Int)) (ρ : Env') : gIx (.dat (plD S rs ss)) (.dat (.int 2)) ρ = some (.ok (.dat (.list (ss.map rowD))) ρ) := rfl
theorem F_law_plain {S : Int} {rs ss : List (List Int)} (h1 : S ≤ 8) (hk : KindsOk S rs) (hl : rs.length ≤ 8) (hk2 : KindsOk S ss) (hl2 : ss.length ≤ 8) : f__law_plain [.dat (plD S rs ss)] = some (.ret (.dat (plD S (told rs) (told ss))) []) := by
  have e1 := F_told h1 hk hl
  have e2 := F_told h1 hk2 hl2
  simp [f__law_plain, pl0, pl1, pl2, e1, e2, tupF, lim]
  rfl
/-! ### steps of the law -/
def able (n m : Nat) : List (Bool × Nat) := (List.range n).map (fun i => (true, i)) ++ (List.range m).map fun i => (false, i)
theorem mem_able {n m : Nat} {p : Bool × Nat} : p ∈ able n m ↔ goodP n m p := by
  obtain ⟨b, i⟩ := p
  unfold able goodP
  cases b <;> simp
theorem opS_of {g : W → W → Env' → Option (R W)} {sa sb : ES} {ρ ρ1 ρ2 : Env'} {x y : W} (h1 : sa ρ = some (.ok x ρ1)) (h2 : sb ρ1 = some (.ok y ρ2)) : opS g sa sb ρ = g x y ρ2 := by
  show bnd (sa ρ) _ = _
  rw [h1]
  show bnd (sb ρ1) _ = _
  rw [h2]
  rfl
theorem F_steps {S : Int} {rs ss : List (List Int)} (hl : rs.length ≤ 8) (hl2 : ss.length ≤ 8) : f__law_steps [.dat (plD S rs ss)] = some (.ret (.fresh (.lst ((able rs.length ss.length).map stepD))) []) := by
  have len : ∀ (l : List (List Int)) ρ, cD lenF [.dat (.list (l.map rowD))] ρ = some (.ok (.dat (.int (l.length : Nat))) ρ) := fun l ρ => by simp
  have c1 : lcS (rngI rng1F (consS (callS (cD lenF) (consS (opS gIx (vS 0) (cS (.int 1))) nilS)) nilS)) (nmG 1) yesS (callS tupF (consS (cS (.str ("lay" : Str))) (consS (vS 1) nilS))) [1] [some (.val (.dat (plD S rs ss))), none] =
      some (.ok (.fresh (.lst ((List.range rs.length).map fun i => stepD (true, i)))) [some (.val (.dat (plD S rs ss))), none]) :=
    lc_nm (List.range rs.length) (fun i : Nat => .int (i : Nat)) (fun i => stepD (true, i)) (rngI_len (by simp [pl1]) (by omega)) rfl free_none (fun i _ => by simp [tupF, lim, stepD]) (by simp [lim]; omega)
  have c2 : lcS (rngI rng1F (consS (callS (cD lenF) (consS (opS gIx (vS 0) (cS (.int 2))) nilS)) nilS)) (nmG 1) yesS (callS tupF (consS (cS (.str ("off" : Str))) (consS (vS 1) nilS))) [1] [some (.val (.dat (plD S rs ss))), none] =
      some (.ok (.fresh (.lst ((List.range ss.length).map fun i => stepD (false, i)))) [some (.val (.dat (plD S rs ss))), none]) :=
    lc_nm (List.range ss.length) (fun i : Nat => .int (i : Nat)) (fun i => stepD (false, i)) (rngI_len (by simp [pl2]) (by omega)) rfl free_none (fun i _ => by simp [tupF, lim, stepD]) (by simp [lim]; omega)
  have c3 : ∀ ρ, gAdd (.fresh (.lst ((List.range rs.length).map fun i => stepD (true, i)))) (.fresh (.lst ((List.range ss.length).map fun i => stepD (false, i)))) ρ = some (.ok (.fresh (.lst ((able rs.length ss.length).map stepD))) ρ) := fun ρ => by
    rw [gAdd_ll rfl rfl (by simp [lim]; omega)]
    simp [able, Function.comp_def]
  have o := (opS_of (g := gAdd) c1 c2).trans (c3 _)
  have go : ∀ (E : ES), E [some (.val (.dat (plD S rs ss))), none] = some (.ok (.fresh (.lst ((able rs.length ss.length).map stepD))) [some (.val (.dat (plD S rs ss))), none]) → runF 1 2 (retS E) [.dat (plD S rs ss)] = some (.ret (.fresh (.lst ((able rs.length ss.length).map stepD))) []) := fun E h => by
    simp [h]
  exact go _ o
theorem F_led {S I : Int} {rs ss : List (List Int)} {l : List Int} {p : Bool × Nat} (h1 : S ≤ 8) (hr : ∀ r ∈ rs, Good S r) (hs : ∀ r ∈ ss, Good S r) (hl : Good S l) (hp : goodP rs.length ss.length p) (hI : I = (p.2 : Nat)) :
    f__law_led [.dat (plD S rs ss), .dat (.list (l.map PyData.int)), .dat (.tuple [.str (if p.1 then "lay" else "off"), .int I])] = some (.ret (.fresh (.lst ((stepL rs ss l p).map PyData.int))) []) := by
  obtain ⟨b, i⟩ := p
  have l8 := good_len hl h1
  have i0 : ∀ w ρ, gIx (.dat (.tuple [.str w, .int I])) (.dat (.int 0)) ρ = some (.ok (.dat (.str w)) ρ) := fun w ρ => rfl
  have i1 : ∀ w ρ, gIx (.dat (.tuple [.str w, .int I])) (.dat (.int 1)) ρ = some (.ok (.dat (.int I)) ρ) := fun w ρ => rfl
  cases b with
  | true =>
    have gi : i < rs.length := by simpa [goodP] using hp
    have k8 := good_len (hr _ (getR_mem gi)) h1
    have ix := fun ρ => gIx_rows (ρ := ρ) (rs := rs) (i := I) (by simp at hI; omega) (by simp at hI; omega)
    rw [show I.toNat = i by simp at hI; omega] at ix
    simp only [if_true, stepL]
    generalize getR rs i = k at *
    have e1 := lc_n (i := 3) (s := seqI (opS gIx (opS gIx (vS 0) (cS (.int 1))) (opS gIx (vS 2) (cS (.int 1))))) (t := tst (opS gNotInT (vS 3) (vS 1))) (e := vS 3) (ρ := [some (.val (.dat (plD S rs ss))), some (.val (.dat (.list (l.map PyData.int)))), some (.val (.dat (.tuple [.str "lay", .int I]))), none]) k PyData.int (fun n => !decide (n ∈ l)) PyData.int (by simp [pl1, i1, ix, rowD]) rfl free_none (fun n hn => ⟨by simp, fun _ => by simp⟩) (by simp [lim]; omega)
    have hf : (k.filter fun x => !decide (x ∈ l)).length ≤ 8 := Nat.le_trans (List.length_filter_le _ _) k8
    have e3 : ∀ ρ, gAdd (.dat (.list (l.map PyData.int))) (.fresh (.lst ((k.filter fun x => !decide (x ∈ l)).map PyData.int))) ρ = some (.ok (.fresh (.lst ((l ++ k.filter fun x => !decide (x ∈ l)).map PyData.int))) ρ) := fun ρ => by
      rw [gAdd_ll rfl rfl (by simp [lim]; omega), ← List.map_append]
    have e4 : sortF2 [.list ((l ++ k.filter fun x => !decide (x ∈ l)).map PyData.int)] = some ((laid l k).map PyData.int) := sortF_ints (by simp [lim]; omega)
    unfold laid at e4 ⊢
    generalize hFL : (k.filter fun x => !decide (x ∈ l)) = FL at *
    simp [-List.map_append, f__law_led, i0, e1, e3, e4, hFL, laid]
  | false =>
    have gi : i < ss.length := by simpa [goodP] using hp
    have k8 := good_len (hs _ (getR_mem gi)) h1
    have ix := fun ρ => gIx_rows (ρ := ρ) (rs := ss) (i := I) (by simp at hI; omega) (by simp at hI; omega)
    rw [show I.toNat = i by simp at hI; omega] at ix
    simp only [Bool.false_eq_true, if_false, stepL]
    generalize getR ss i = k at *
    have e1 := lc_n (i := 3) (s := seqI (vS 1)) (t := tst (opS gNotInT (vS 3) (opS gIx (opS gIx (vS 0) (cS (.int 2))) (opS gIx (vS 2) (cS (.int 1)))))) (e := vS 3) (ρ := [some (.val (.dat (plD S rs ss))), some (.val (.dat (.list (l.map PyData.int)))), some (.val (.dat (.tuple [.str "off", .int I]))), none]) l PyData.int (fun n => !decide (n ∈ k)) PyData.int (by simp) rfl free_none (fun n hn => ⟨by simp [pl2, i1, ix, rowD], fun _ => by simp⟩) (by simp [lim]; omega)
    simp [f__law_led, i0, lay_off, e1, off]
end K46

namespace K46
open PySem PySem.Spec L2 Py
theorem F_spots (b : Nat) : f_spots_of [.dat (.int (b : Nat))] = some (.ret (.dat (.tuple ((spotsN 8 b).map PyData.int))) []) := by
  have h := told_lot b
  simp [f_spots_of]
  rw [lc_n (List.range 8) (fun i : Nat => .int (i : Nat)) (fun i => b.testBit i) (fun i => .int (i : Nat)) (by simp; rw [rng1_map (by decide) (by decide)]; rfl) rfl free_none (fun i _ => ⟨by
    have hb := bit_at b i
    have hi : (0 : Int) ≤ (i : Nat) := by omega
    simp at hb
    simp [hi, hb], fun _ => by simp⟩) (by decide), map_int]
  simp [-List.map_map]
  rfl
def partsK (ds : List Nat) (i : Nat) : List (Nat × Nat) := ds.zipIdx.filter fun q => q.1.testBit i
theorem F_want_store (S : Int) (ds es : List Nat) : f_want_store [storeW' S ds es] = some (.ret (storeW' S ds es) []) := by
  simp [f_want_store, store_slot, store_outs, store_dat]
  rfl
theorem store_hard (S : Int) (ds es : List Nat) : hardW (storeW' S ds es) = some (storeW' S ds es) := rfl
theorem store_slotF (S : Int) (ds es : List Nat) : slotFor false (storeW' S ds es) = some (.val (storeW' S ds es)) := rfl
/-! ### ends -/
end K46

namespace K46
open PySem PySem.Spec L2 Py
/-! ### rows among all values -/
theorem step_dec (p : Bool × Nat) : stepI (stepD p) = some p := by
  obtain ⟨b, i⟩ := p
  cases b
  · simp [stepD, stepI, lay_off]
  · simp [stepD, stepI]
theorem ok_stepD {n m : Nat} {p : Bool × Nat} : stepOk n m (stepD p) = true ↔ goodP n m p := by
  unfold stepOk
  rw [step_dec]
  obtain ⟨b, i⟩ := p
  cases b <;> simp [goodP]
theorem ok_some {n m : Nat} {d : D} (h : stepOk n m d = true) : ∃ p, d = stepD p ∧ goodP n m p := by
  cases e : stepI d with
  | none => simp [stepOk, e] at h
  | some p =>
    have := stepI_eq e
    subst this
    exact ⟨p, rfl, ok_stepD.mp h⟩
theorem eqv_pair {w : Str} {j : Int} {a b : D} (hb : Py.isBool b = false) : PyData.eqv (.tuple [.str w, .int j]) (.tuple [a, b]) = true ↔ a = .str w ∧ b = .int j := by
  have e : PyData.eqv (.tuple [.str w, .int j]) (.tuple [a, b]) = (PyData.eqv (.str w) a && (PyData.eqv (.int j) b && true)) := rfl
  have ha : PyData.eqv (.str w) a = true ↔ a = .str w := by
    cases a with
    | str s =>
      rw [eqv_str, decide_eq_true_eq]
      exact ⟨fun h => (by injection h with h; rw [h]), fun h => (by injection h with h; rw [h])⟩
    | _ => exact ⟨fun h => (by cases h), fun h => (by cases h)⟩
  have hb : PyData.eqv (.int j) b = true ↔ b = .int j := by
    cases b with
    | int k =>
      rw [eqv_int, decide_eq_true_eq]
      exact ⟨fun h => (by rw [h]), fun h => (by injection h with h; rw [h])⟩
    | bool k => cases hb
    | _ => exact ⟨fun h => (by cases h), fun h => (by cases h)⟩
  rw [e, Bool.and_true, Bool.and_eq_true, ha, hb]
theorem eqv_step {p : Bool × Nat} {a b : D} (hb : Py.isBool b = false) : PyData.eqv (stepD p) (.tuple [a, b]) = true ↔ PyData.tuple [a, b] = stepD p := by
  unfold stepD
  rw [eqv_pair hb]
  constructor
  · rintro ⟨h1, h2⟩
    rw [h1, h2]
  · intro h
    injection h with h
    injection h with h1 h2
    injection h2 with h2 _
    exact ⟨h1, h2⟩
theorem any_steps {n m : Nat} {a b : D} (hb : Py.isBool b = false) : (((able n m).map stepD).any fun z => PyData.eqv z (.tuple [a, b])) = stepOk n m (.tuple [a, b]) := by
  rw [Bool.eq_iff_iff, List.any_eq_true]
  constructor
  · rintro ⟨z, hz, h⟩
    obtain ⟨p, hp, rfl⟩ := List.mem_map.mp hz
    rw [(eqv_step hb).mp h]
    exact ok_stepD.mpr (mem_able.mp hp)
  · intro h
    obtain ⟨p, e, g⟩ := ok_some h
    exact ⟨stepD p, List.mem_map.mpr ⟨p, mem_able.mpr g, rfl⟩, (eqv_step hb).mpr e⟩
theorem shaped_steps (n m : Nat) : SeqAt.shaped (.list ((able n m).map stepD)) = true := by
  have go : ∀ l : List (Bool × Nat), PyData.canLayAll0 (l.map stepD) = true ∧ PyData.depthAll (l.map stepD) ≤ 1 := by
    intro l
    induction l with
    | nil => simp [PyData.canLayAll0, PyData.depthAll]
    | cons p l ih =>
      have h : PyData.canLay0 (stepD p) = true ∧ PyData.depth (stepD p) ≤ 1 := by
        obtain ⟨b, i⟩ := p
        have hl : SeqAt.shaped (.str "lay") = true := by decide +kernel
        have ho : SeqAt.shaped (.str "off") = true := by decide +kernel
        simp [SeqAt.shaped] at hl ho
        cases b <;> simp [stepD, PyData.canLay0, PyData.canLayAll0, PyData.depth, PyData.depthAll] at * <;> assumption
      simp only [List.map_cons, PyData.canLayAll0, PyData.depthAll, h.1, ih.1]
      exact ⟨rfl, by omega⟩
  have := go (able n m)
  simp [SeqAt.shaped, PyData.canLay0, PyData.depth, this.1]
  omega
end K46

namespace K46
open PySem PySem.Spec L2 Py
def lotI (d : D) : List Int := sortI (rowOf d)
def closedL (rs ss L : List (List Int)) : Bool := decide ([] ∈ L) && L.all fun l => rs.all (fun k => decide (laid l k ∈ L)) && ss.all fun k => decide (off l k ∈ L)
theorem able_all {rs ss L : List (List Int)} {l : List Int} : ((able rs.length ss.length).all fun p => decide (stepL rs ss l p ∈ L)) = (rs.all (fun k => decide (laid l k ∈ L)) && ss.all fun k => decide (off l k ∈ L)) := by
  rw [Bool.eq_iff_iff, Bool.and_eq_true, List.all_eq_true, List.all_eq_true, List.all_eq_true]
  simp only [decide_eq_true_eq]
  have idx : ∀ {rs : List (List Int)} {k : List Int}, k ∈ rs → ∃ i, i < rs.length ∧ getR rs i = k := fun {rs k} hk => by
    obtain ⟨i, hi, e⟩ := List.getElem_of_mem hk
    refine ⟨i, hi, ?_⟩
    unfold getR
    rw [List.getD_eq_getElem?_getD, List.getElem?_eq_getElem hi]
    exact e
  constructor
  · intro h
    refine ⟨fun k hk => ?_, fun k hk => ?_⟩
    · obtain ⟨i, hi, rfl⟩ := idx hk
      exact h (true, i) (mem_able.mpr (by simpa [goodP] using hi))
    · obtain ⟨i, hi, rfl⟩ := idx hk
      exact h (false, i) (mem_able.mpr (by simpa [goodP] using hi))
  · rintro ⟨h1, h2⟩ ⟨b, i⟩ hp
    have hp := mem_able.mp hp
    cases b with
    | true => exact h1 _ (getR_mem (by simpa [goodP] using hp))
    | false => exact h2 _ (getR_mem (by simpa [goodP] using hp))
end K46

namespace K46
open PySem PySem.Spec L2 Py
/-! ### the flats of the law -/
theorem few {S : Int} (h1 : S ≤ 5) {F : List (List Int)} (hF : ∀ l ∈ F, Good S l) (nd : F.Nodup) : F.length ≤ 32 := by
  have n2 : (F.map fun l => ((bitsN l : Nat) : Int)).Nodup := by
    rw [List.nodup_iff_pairwise_ne, List.pairwise_map]
    exact (List.Pairwise.and_mem.mp nd).imp fun ⟨ha, hb, ne⟩ e => ne (good_eq (hF _ ha) (hF _ hb) (by omega))
  have := in_range_len (S := 32) n2 fun n hn => by
    obtain ⟨l, hl, rfl⟩ := List.mem_map.mp hn
    have := bits_lt (n := 5) (ns := l) fun m hm => by have := (hF l hl).2 m hm; omega
    omega
  simpa using this
theorem flats_inner {S : Int} {rs ss F : List (List Int)} {x : List Int} {k : Nat} {K : Int} (h0 : 2 ≤ S) (h5 : S ≤ 5) (hr : ∀ r ∈ rs, Good S r) (hs : ∀ r ∈ ss, Good S r) (nd : F.Nodup) (gF : ∀ l ∈ F, Good S l) {Q : List Int → Prop} (hQ : ∀ l p, Good S l → Q l → goodP rs.length ss.length p → Q (stepL rs ss l p)) (qF : ∀ l ∈ F, Q l) (hK : K = (k : Nat)) (hx : F[k]? = some x) (x4 x5 : Option Slot) (f4 : Free x4) (f5 : Free x5) :
    ∃ F' y4 y5, Free y4 ∧ Free y5 ∧ F'.Nodup ∧ (∀ l ∈ F', Good S l) ∧ (∀ l ∈ F', Q l) ∧ F <+: F' ∧ (∀ p ∈ able rs.length ss.length, stepL rs ss x p ∈ F') ∧
      forL (nmG 4) B__law_flats_1 ((able rs.length ss.length).map stepD) [some (.val (.dat (plD S rs ss))), some (.own (.lst (F.map rowD))), some (.val (.dat (.int K))), some (.val (.dat (.list ((able rs.length ss.length).map stepD)))), x4, x5] =
        some (.nx [some (.val (.dat (plD S rs ss))), some (.own (.lst (F'.map rowD))), some (.val (.dat (.int K))), some (.val (.dat (.list ((able rs.length ss.length).map stepD)))), y4, y5]) := by
  obtain ⟨AB, hAB⟩ : ∃ AB, AB = (able rs.length ss.length).map stepD := ⟨_, rfl⟩
  obtain ⟨⟨F', y5⟩, y4, ⟨n1, n2, nq, n3, n4, n5⟩, hy, e⟩ := for_inv (f := nmG 4) (b := B__law_flats_1) stepD
    (fun (z : List (List Int) × Option Slot) x => [some (.val (.dat (plD S rs ss))), some (.own (.lst (z.1.map rowD))), some (.val (.dat (.int K))), some (.val (.dat (.list AB))), x, z.2])
    (fun j z => z.1.Nodup ∧ (∀ l ∈ z.1, Good S l) ∧ (∀ l ∈ z.1, Q l) ∧ F <+: z.1 ∧ (∀ i p, i < j → (able rs.length ss.length)[i]? = some p → stepL rs ss x p ∈ z.1) ∧ Free z.2) (able rs.length ss.length) 0
    (fun j p hj z x4 ⟨n1, n2, nq, n3, n4, n5⟩ hx4 => by
      obtain ⟨G, x5⟩ := z
      dsimp only at n1 n2 nq n3 n4 n5
      have gp : goodP rs.length ss.length p := mem_able.mp (List.mem_of_getElem? hj)
      have hxG : G[k]? = some x := by
        obtain ⟨t, rfl⟩ := n3
        rw [List.getElem?_append_left (List.getElem?_eq_some_iff.mp hx).1]
        exact hx
      have gx : Good S x := n2 x (List.mem_of_getElem? hxG)
      have hkG := (List.getElem?_eq_some_iff.mp hxG).1
      have l32 := few h5 n2 n1
      have ix : ∀ y4 y5, gIx (.own 1) (.dat (.int K)) [some (.val (.dat (plD S rs ss))), some (.own (.lst (G.map rowD))), some (.val (.dat (.int K))), some (.val (.dat (.list AB))), y4, y5] = some (.ok (.dat (rowD x)) [some (.val (.dat (plD S rs ss))), some (.own (.lst (G.map rowD))), some (.val (.dat (.int K))), some (.val (.dat (.list AB))), y4, y5]) := fun y4 y5 => by
        rw [gIx_at, viewS_own, view_own (c := .lst (G.map rowD)) rfl]
        have ek : K.toNat = k := by omega
        have e2 : atI G K = some x := by
          rw [atI_get (by omega) (by omega)]
          have := (List.getElem?_eq_some_iff.mp hxG).2
          simp only [ek, this]
        simp [atI_map, e2]
      obtain ⟨I, hI⟩ : ∃ I : Int, I = (p.2 : Nat) := ⟨_, rfl⟩
      have el := F_led (by omega) hr hs gx gp hI
      have es : stepD p = .tuple [.str (if p.1 then "lay" else "off"), .int I] := by rw [hI]; rfl
      rw [← es] at el
      have gq := good_step hr gx gp
      have qq := hQ x p gx (nq x (List.mem_of_getElem? hxG)) gp
      generalize hsd : stepD p = sd at *
      obtain ⟨q, hq⟩ : ∃ q, q = stepL rs ss x p := ⟨_, rfl⟩
      rw [← hq] at el gq qq
      by_cases hm : q ∈ G
      · refine ⟨(G, some (.val (.dat (rowD q)))), some (.val (.dat sd)), ⟨n1, n2, nq, n3, fun i p' hi hp' => ?_, free_val (.dat (rowD q))⟩, free_val (.dat sd), .inl ?_⟩
        · by_cases hij : i < j
          · exact n4 i p' (by omega) hp'
          · have : i = j := by omega
            subst this
            rw [hj] at hp'
            cases hp'
            rw [← hq]
            exact hm
        · have hin : ∀ y4, gNotInT (.dat (rowD q)) (.own 1) [some (.val (.dat (plD S rs ss))), some (.own (.lst (G.map rowD))), some (.val (.dat (.int K))), some (.val (.dat (.list AB))), y4, some (.val (.dat (rowD q)))] = some (.ok (.dat (.bool false)) [some (.val (.dat (plD S rs ss))), some (.own (.lst (G.map rowD))), some (.val (.dat (.int K))), some (.val (.dat (.list AB))), y4, some (.val (.dat (rowD q)))]) := fun y4 => by
            rw [gNotInT_of (x := rowD q) (ds := G.map rowD) rfl rfl (by simp) (by simp), any_rows]
            simp [hm]
          simp only [rowD] at ix hin
          simp [B__law_flats_1, hx4, n5, ix, el, hin, rowD]
      · have nd2 : (G ++ [q]).Nodup := List.nodup_append.mpr ⟨n1, by simp, fun a ha b hb e => by simp at hb; subst hb e; exact hm ha⟩
        have q2 : ∀ l ∈ G ++ [q], Q l := fun l hl => by
          rcases List.mem_append.mp hl with hl | hl
          · exact nq l hl
          · simp at hl; rw [hl]; exact qq
        have g2 : ∀ l ∈ G ++ [q], Good S l := fun l hl => by
          rcases List.mem_append.mp hl with hl | hl
          · exact n2 l hl
          · simp at hl; rw [hl]; exact gq
        refine ⟨(G ++ [q], some (.val (.dat (rowD q)))), some (.val (.dat sd)), ⟨nd2, g2, q2, n3.trans (List.prefix_append _ _), fun i p' hi hp' => ?_, free_val (.dat (rowD q))⟩, free_val (.dat sd), .inl ?_⟩
        · by_cases hij : i < j
          · exact List.mem_append_left _ (n4 i p' (by omega) hp')
          · have : i = j := by omega
            subst this
            rw [hj] at hp'
            cases hp'
            rw [← hq]
            simp
        · have hin : ∀ y4, gNotInT (.dat (rowD q)) (.own 1) [some (.val (.dat (plD S rs ss))), some (.own (.lst (G.map rowD))), some (.val (.dat (.int K))), some (.val (.dat (.list AB))), y4, some (.val (.dat (rowD q)))] = some (.ok (.dat (.bool true)) [some (.val (.dat (plD S rs ss))), some (.own (.lst (G.map rowD))), some (.val (.dat (.int K))), some (.val (.dat (.list AB))), y4, some (.val (.dat (rowD q)))]) := fun y4 => by
            rw [gNotInT_of (x := rowD q) (ds := G.map rowD) rfl rfl (by simp) (by simp), any_rows]
            simp [hm]
          have app : ∀ y4, appF (.own 1) [.dat (rowD q)] [some (.val (.dat (plD S rs ss))), some (.own (.lst (G.map rowD))), some (.val (.dat (.int K))), some (.val (.dat (.list AB))), y4, some (.val (.dat (rowD q)))] = some (.ok (.dat .none) [some (.val (.dat (plD S rs ss))), some (.own (.lst ((G ++ [q]).map rowD))), some (.val (.dat (.int K))), some (.val (.dat (.list AB))), y4, some (.val (.dat (rowD q)))]) := fun y4 => by
            rw [appF_own _ rfl (by simp [lim]; omega)]
            simp
          generalize (G ++ [q]).map rowD = GQ at *
          simp only [rowD] at ix hin app
          simp [B__law_flats_1, hx4, n5, ix, el, hin, app, rowD])
    (F, x5) x4 ⟨nd, gF, qF, List.prefix_refl _, fun i p hi => absurd hi (by omega), f5⟩ f4
  refine ⟨F', y4, y5, hy, n5, n1, n2, nq, n3, fun p hp => ?_, ?_⟩
  · obtain ⟨i, hi, ei⟩ := List.getElem_of_mem hp
    exact n4 i p (by omega) (by rw [List.getElem?_eq_getElem hi, ei])
  · rw [← hAB] at e ⊢
    exact e
end K46

namespace K46
open PySem PySem.Spec L2 Py
theorem flats_while {S : Int} {rs ss : List (List Int)} (h0 : 2 ≤ S) (h5 : S ≤ 5) (hr : ∀ r ∈ rs, Good S r) (hs : ∀ r ∈ ss, Good S r) {Q : List Int → Prop} (hQ : ∀ l p, Good S l → Q l → goodP rs.length ss.length p → Q (stepL rs ss l p)) (q0 : Q []) (n : Nat) (hn : 40 < n) :
    ∃ F K x4 x5, whileL (tst (opS gLt (vS 2) (callS (cD lenF) (consS (vS 1) nilS)))) B__law_flats_2 n [some (.val (.dat (plD S rs ss))), some (.own (.lst [.list []])), some (.val (.dat (.int 0))), some (.val (.dat (.list ((able rs.length ss.length).map stepD)))), none, none] =
      some (.nx [some (.val (.dat (plD S rs ss))), some (.own (.lst (F.map rowD))), some (.val (.dat (.int K))), some (.val (.dat (.list ((able rs.length ss.length).map stepD)))), x4, x5]) ∧ closedL rs ss F = true ∧ (∀ l ∈ F, Good S l) ∧ (∀ l ∈ F, Q l) ∧ F.Nodup := by
  obtain ⟨AB, hAB⟩ : ∃ AB, AB = (able rs.length ss.length).map stepD := ⟨_, rfl⟩
  rw [← hAB]
  have W := whileL_meas (c := tst (opS gLt (vS 2) (callS (cD lenF) (consS (vS 1) nilS)))) (b := B__law_flats_2)
    (fun m ρ => ∃ (F : List (List Int)) (k : Nat) (K : Int) (x4 x5 : Option Slot), Free x4 ∧ Free x5 ∧ K = (k : Nat) ∧ m = 33 - k ∧ k ≤ F.length ∧ F.Nodup ∧ (∀ l ∈ F, Good S l) ∧ (∀ l ∈ F, Q l) ∧ [] ∈ F ∧ (∀ i x, i < k → F[i]? = some x → ∀ p ∈ able rs.length ss.length, stepL rs ss x p ∈ F) ∧
      ρ = [some (.val (.dat (plD S rs ss))), some (.own (.lst (F.map rowD))), some (.val (.dat (.int K))), some (.val (.dat (.list AB))), x4, x5])
    (fun ρ => ∃ (F : List (List Int)) (K : Int) (x4 x5 : Option Slot), closedL rs ss F = true ∧ (∀ l ∈ F, Good S l) ∧ (∀ l ∈ F, Q l) ∧ F.Nodup ∧
      ρ = [some (.val (.dat (plD S rs ss))), some (.own (.lst (F.map rowD))), some (.val (.dat (.int K))), some (.val (.dat (.list AB))), x4, x5])
    (fun m ρ ⟨F, k, K, x4, x5, f4, f5, hK, hm, hk, nd, gF, qF, h0F, hc, e⟩ => by
      subst e
      have hlt : gLt (.dat (.int K)) (.dat (.int (F.length : Nat))) [some (.val (.dat (plD S rs ss))), some (.own (.lst (F.map rowD))), some (.val (.dat (.int K))), some (.val (.dat (.list AB))), x4, x5] = some (.ok (.dat (.bool (decide (K < (F.length : Nat))))) [some (.val (.dat (plD S rs ss))), some (.own (.lst (F.map rowD))), some (.val (.dat (.int K))), some (.val (.dat (.list AB))), x4, x5]) := gLt_ii _ _ _
      by_cases hlt2 : k < F.length
      · have hx : F[k]? = some F[k] := List.getElem?_eq_getElem hlt2
        obtain ⟨F', y4, y5, g4, g5, n1, n2, nq, n3, n4, e⟩ := flats_inner h0 h5 hr hs nd gF hQ qF hK hx x4 x5 f4 f5
        rw [← hAB] at e
        have l32 := few h5 n2 n1
        have hd : decide (K < (F.length : Nat)) = true := decide_eq_true (by omega)
        rw [hd] at hlt
        refine .inr ⟨[some (.val (.dat (plD S rs ss))), some (.own (.lst (F.map rowD))), some (.val (.dat (.int K))), some (.val (.dat (.list AB))), x4, x5], ?_, [some (.val (.dat (plD S rs ss))), some (.own (.lst (F'.map rowD))), some (.val (.dat (.int (K + 1)))), some (.val (.dat (.list AB))), y4, y5], 33 - (k + 1), ?_, ?_, F', k + 1, K + 1, y4, y5, g4, g5, by omega, rfl, ?_, n1, n2, nq, ?_, fun i x hi hx' p hp => ?_, rfl⟩
        · simp [-gLt_ii, hlt]
        · simp [B__law_flats_2, e]
        · have := n3.length_le
          omega
        · have := n3.length_le
          omega
        · exact n3.subset h0F
        · by_cases hik : i < k
          · have : F[i]? = some x := by
              obtain ⟨t, rfl⟩ := n3
              rw [List.getElem?_append_left (by omega)] at hx'
              exact hx'
            exact n3.subset (hc i x hik this p hp)
          · have hik2 : i = k := by omega
            subst hik2
            have : F'[i]? = some F[i] := by
              obtain ⟨t, rfl⟩ := n3
              rw [List.getElem?_append_left hlt2]
              exact hx
            rw [this] at hx'
            cases hx'
            exact n4 p hp
      · have hd : decide (K < (F.length : Nat)) = false := decide_eq_false (by omega)
        rw [hd] at hlt
        refine .inl ⟨[some (.val (.dat (plD S rs ss))), some (.own (.lst (F.map rowD))), some (.val (.dat (.int K))), some (.val (.dat (.list AB))), x4, x5], by simp [-gLt_ii, hlt], F, K, x4, x5, ?_, gF, qF, nd, rfl⟩
        unfold closedL
        rw [Bool.and_eq_true, decide_eq_true_eq, List.all_eq_true]
        refine ⟨h0F, fun l hl => ?_⟩
        rw [← able_all, List.all_eq_true]
        intro p hp
        obtain ⟨i, hi, ei⟩ := List.getElem_of_mem hl
        rw [decide_eq_true_eq]
        exact hc i l (by omega) (by rw [List.getElem?_eq_getElem hi, ei]) p hp)
  obtain ⟨ρ', e, F, K, x4, x5, q1, q2, qq, q3, rfl⟩ := W n 33 [some (.val (.dat (plD S rs ss))), some (.own (.lst [.list []])), some (.val (.dat (.int 0))), some (.val (.dat (.list AB))), none, none] (by omega) ⟨[[]], 0, 0, none, none, free_none, free_none, rfl, rfl, by simp, by simp, by simpa using good_nil S, by simpa using q0, by simp, fun i x hi => absurd hi (by omega), by simp [rowD]⟩
  exact ⟨F, K, x4, x5, e, q1, q2, qq, q3⟩
theorem flats_run {FST : FS} {WH : SS} {P : D} {AB FD SD : List D} {K : Int} {x4 x5 : Option Slot}
    (es : FST [.dat P] = some (.ret (.fresh (.lst AB)) []))
    (ew : WH [some (.val (.dat P)), some (.own (.lst [.list []])), some (.val (.dat (.int 0))), some (.val (.dat (.list AB))), none, none] = some (.nx [some (.val (.dat P)), some (.own (.lst FD)), some (.val (.dat (.int K))), some (.val (.dat (.list AB))), x4, x5]))
    (so : sortF2 [.list FD] = some SD) :
    runF 1 6 (seqS (parS [(1, true), (2, false), (3, false)] (consS (callS lstF (consS (hrd (callS lstF nilS)) nilS)) (consS (cS (.int 0)) (consS (hrd (fCall FST (consS (vS 0) nilS))) nilS))))
  (seqS WH
  (retS (callS (cL sortF2) (consS (vS 1) nilS))))) [.dat P] = some (.ret (.fresh (.lst SD)) []) := by
  simp [es, ew, so, lstF, lim]
theorem F_flats {S : Int} {rs ss : List (List Int)} (h0 : 2 ≤ S) (h5 : S ≤ 5) (hr : ∀ r ∈ rs, Good S r) (hs : ∀ r ∈ ss, Good S r) (hl : rs.length ≤ 8) (hl2 : ss.length ≤ 8) {Q : List Int → Prop} (hQ : ∀ l p, Good S l → Q l → goodP rs.length ss.length p → Q (stepL rs ss l p)) (q0 : Q []) :
    ∃ F, f__law_flats [.dat (plD S rs ss)] = some (.ret (.fresh (.lst (F.map rowD))) []) ∧ closedL rs ss F = true ∧ (∀ l ∈ F, Good S l) ∧ (∀ l ∈ F, Q l) ∧ F.length ≤ 32 ∧ F ≠ [] := by
  have es := F_steps (S := S) (rs := rs) (ss := ss) hl hl2
  obtain ⟨F, K, x4, x5, ew, hc, gF, qF, nd⟩ := flats_while h0 h5 hr hs hQ q0 fuel (by unfold fuel; omega)
  have l32 := few h5 gF nd
  have so : sortF2 [.list (F.map rowD)] = some ((sortR F).map rowD) := sortF_rows (by simp [lim]; omega)
  refine ⟨sortR F, flats_run es ew so, ?_, fun l hl => gF l (mem_sortR.mp hl), fun l hl => qF l (mem_sortR.mp hl), by simpa using l32, fun z => ?_⟩
  · have e : closedL rs ss (sortR F) = closedL rs ss F := by
      rw [Bool.eq_iff_iff]
      unfold closedL
      simp only [Bool.and_eq_true, List.all_eq_true, decide_eq_true_eq, mem_sortR]
    rw [e]
    exact hc
  · have := congrArg List.length z
    simp at this
    rw [this] at hc
    simp [closedL] at hc
end K46

namespace K46
open PySem PySem.Spec L2 Py
/-! ### bits -/
theorem F_holds {b : Nat} {s : Int} (h0 : 0 ≤ s) (h1 : s ≤ 100) : f_holds [.dat (.int (b : Nat)), .dat (.int s)] = some (.ret (.dat (.bool (b.testBit s.toNat))) []) := by
  obtain ⟨i, rfl⟩ : ∃ i : Nat, s = (i : Nat) := ⟨s.toNat, by omega⟩
  have hb := bit_at b i
  simp at hb
  simp [f_holds, h0, hb]
/-! ### rows among all values -/
theorem row_run {FST : FS} {P v : D} {ok : D → Bool} (sq2 : ¬ (Py.isList v = false ∧ Py.isTuple v = false)) (hq : isSeq v = true) (hlen : lenF [v] = some (.int ((seqOf v).length : Nat))) (c2 : ¬ (60 : Int) < (((seqOf v).length : Nat) : Int))
    (e1 : lcS (seqI (vS 1)) (nmG 2) yesS (andV (isiS isTuple (vS 2)) (andV (opS gEq (callS (cD lenF) (consS (vS 2) nilS)) (cS (.int 2))) (andV (notV (isiS isBool (opS gIx (vS 2) (cS (.int 1))))) (opS gInT (vS 2) (fCall FST (consS (vS 0) nilS)))))) [2] [some (.val (.dat P)), some (.val (.dat v)), none] = some (.ok (.fresh (.lst ((seqOf v).map fun d => .bool (ok d)))) [some (.val (.dat P)), some (.val (.dat v)), none])) :
    runF 2 3 (seqS (ifS (orT (notT (tst (isiS (fun d => isList d || (fun d => isTuple d || (fun _ => false) d) d) (vS 1)))) (tst (opS gGt (callS (cD lenF) (consS (vS 1) nilS)) (cS (.int 60))))) (retS (cS (.bool false))) nxS)
  (retS (callS (cD allF) (consS (lcS (seqI (vS 1)) (nmG 2) yesS (andV (isiS isTuple (vS 2)) (andV (opS gEq (callS (cD lenF) (consS (vS 2) nilS)) (cS (.int 2))) (andV (notV (isiS isBool (opS gIx (vS 2) (cS (.int 1))))) (opS gInT (vS 2) (fCall FST (consS (vS 0) nilS)))))) [2]) nilS)))) [.dat P, .dat v] = some (.ret (.dat (.bool ((seqOf v).all ok))) []) := by
  simp [sq2, hlen, c2, e1]
theorem row_one {FST : FS} {n m : Nat} {P v d : D} (es : FST [.dat P] = some (.ret (.fresh (.lst ((able n m).map stepD))) [])) (hsh : ∀ a b, d = .tuple [a, b] → SeqAt.shaped (.tuple [a, b]) = true) :
    (andV (isiS isTuple (vS 2)) (andV (opS gEq (callS (cD lenF) (consS (vS 2) nilS)) (cS (.int 2))) (andV (notV (isiS isBool (opS gIx (vS 2) (cS (.int 1))))) (opS gInT (vS 2) (fCall FST (consS (vS 0) nilS)))))) [some (.val (.dat P)), some (.val (.dat v)), some (.val (.dat d))] = some (.ok (.dat (.bool (stepOk n m d))) [some (.val (.dat P)), some (.val (.dat v)), some (.val (.dat d))]) := by
  cases d with
  | tuple l =>
    by_cases cl : l.length = 2
    · obtain ⟨a, b, rfl⟩ : ∃ a b, l = [a, b] := by
        match l, cl with
        | [a, b], _ => exact ⟨a, b, rfl⟩
      have i1 : ∀ ρ, gIx (.dat (.tuple [a, b])) (.dat (.int 1)) ρ = some (.ok (.dat b) ρ) := fun ρ => rfl
      by_cases hb : Py.isBool b = true
      · have hn : stepOk n m (.tuple [a, b]) = false := by
          cases b <;> simp at hb
          exact step_not _ (by simp)
        simp [i1, hb, hn]
      · have hb : Py.isBool b = false := by simpa using hb
        have hin : ∀ ρ, gInT (.dat (.tuple [a, b])) (.fresh (.lst ((able n m).map stepD))) ρ = some (.ok (.dat (.bool (stepOk n m (.tuple [a, b])))) ρ) := fun ρ => by
          rw [gInT_of (x := .tuple [a, b]) (ds := (able n m).map stepD) rfl rfl (hsh a b rfl) (shaped_steps _ _), any_steps hb]
        generalize (able n m).map stepD = AB at *
        simp [i1, hb, es, hin, -gInT_list, -gInT_freshL]
    · have hn : stepOk n m (.tuple l) = false := step_not _ (fun ⟨w, i, e⟩ => cl (by rw [e]; rfl))
      have c2 : ¬ ((l.length : Nat) : Int) = 2 := by omega
      simp [c2, hn]
  | _ => simp [stepOk, stepI]
def RowSh (v : D) : Prop := ∀ a b, .tuple [a, b] ∈ seqOf v → SeqAt.shaped (.tuple [a, b]) = true
end K46

namespace K46
open PySem PySem.Spec L2 Py
/-! ### rows above -/
def abv (rs ss : List (List Int)) (s o : Int) (v : D) : Bool := rowB rs.length ss.length v && (decide (s ∈ endL rs ss (stepsOf v)) && !decide (o ∈ endL rs ss (stepsOf v)))
theorem row_parts {nd ne : Nat} {v : D} (h : rowB nd ne v = true) : isSeq v = true ∧ seqOf v = (stepsOf v).map stepD ∧ ∀ p ∈ stepsOf v, goodP nd ne p := by
  unfold rowB at h
  simp only [Bool.and_eq_true, decide_eq_true_eq] at h
  obtain ⟨e, g⟩ := steps_ok h.2
  exact ⟨h.1.1, e, g⟩
theorem F_want_shelf {S s : Int} {ds es : List Nat} (h0 : 0 ≤ s) (h1 : s < S) : f_want_shelf [storeW' S ds es, .dat (.int s)] = some (.ret (.dat .none) []) := by
  have : ¬ S ≤ s := by omega
  simp [f_want_shelf, store_slot, store_outs, fld_shelves, isCount, h0, this]
theorem F_want_other {S s o : Int} {ds es : List Nat} (h0 : 0 ≤ o) (h1 : o < S) (hn : o ≠ s) : f_want_other_shelf [storeW' S ds es, .dat (.int s), .dat (.int o)] = some (.ret (.dat .none) []) := by
  have e := F_want_shelf (ds := ds) (es := es) h0 h1
  simp [f_want_other_shelf, store_slot, store_outs, store_dat, e, hn]
end K46

namespace K46
open PySem PySem.Spec L2 Py
/-! ### blame -/
def posW (rs : List (List Int)) (s o : Int) : List (List Int × Nat) := rs.zipIdx.filter fun q => decide (s ∈ q.1) && !decide (o ∈ q.1)
theorem holds_in {S s : Int} {r : List Int} (h1 : S ≤ 8) (hr : Good S r) (s0 : 0 ≤ s) (s1 : s < S) : f_holds [.dat (.int (bitsN r : Nat)), .dat (.int s)] = some (.ret (.dat (.bool (decide (s ∈ r)))) []) := by
  have t1 := F_holds (b := bitsN r) s0 (by omega)
  rw [testBit_bits (nn hr), show ((s.toNat : Nat) : Int) = s by omega] at t1
  exact t1
theorem F_positions {S s o : Int} {rs : List (List Int)} (h1 : S ≤ 8) (hr : ∀ r ∈ rs, Good S r) (hl : rs.length ≤ 8) (s0 : 0 ≤ s) (s1 : s < S) (o0 : 0 ≤ o) (o1 : o < S) : f_positions_with [.dat (.tuple (natsD (rs.map bitsN))), .dat (.int s), .dat (.int o)] = some (.ret (.fresh (.lst ((posW rs s o).map fun q => .int (q.2 : Nat)))) []) := by
  have e0 : natsD (rs.map bitsN) = rs.map fun r => PyData.int (bitsN r : Nat) := by simp [natsD]
  have e1 := lc_p (i := 3) (j := 4) (s := enumI (vS 0)) (t := andT (tst (fCall f_holds (consS (vS 4) (consS (vS 1) nilS)))) (notT (tst (fCall f_holds (consS (vS 4) (consS (vS 2) nilS)))))) (e := vS 3) (ρ := [some (.val (.dat (.tuple (natsD (rs.map bitsN))))), some (.val (.dat (.int s))), some (.val (.dat (.int o))), none, none]) rs.zipIdx (fun q => .int (q.2 : Nat)) (fun q => .int (bitsN q.1 : Nat)) (fun q => decide (s ∈ q.1) && !decide (o ∈ q.1)) (fun q => .int (q.2 : Nat)) (by rw [e0]; simp [enumD_map]) rfl rfl free_none free_none (by decide) (fun q hq => by
    have hm : q.1 ∈ rs := by
      obtain ⟨r, i⟩ := q
      exact (List.mem_zipIdx hq).2.2 ▸ List.getElem_mem _
    have t1 := holds_in h1 (hr _ hm) s0 s1
    have t2 := holds_in h1 (hr _ hm) o0 o1
    generalize ((bitsN q.1 : Nat) : Int) = B at *
    refine ⟨?_, fun _ => by simp⟩
    by_cases h : s ∈ q.1
    · simp [h] at t1
      simp [t1, t2, h]
    · simp [h] at t1
      simp [t1, h]) (by simp [lim]; omega)
  unfold posW
  simp [f_positions_with, e1]
end K46

namespace K46
open PySem PySem.Spec L2 Py
def namedB (rs : List (List Int)) (s : Int) : Bool := rs.any fun r => decide (s ∈ r)
theorem F_is_named {S s : Int} {rs : List (List Int)} {es : List Nat} (h1 : S ≤ 8) (hr : ∀ r ∈ rs, Good S r) (hl : rs.length ≤ 8) (s0 : 0 ≤ s) (s1 : s < S) : f_is_named [storeW' S (rs.map bitsN) es, .dat (.int s)] = some (.ret (.dat (.bool (namedB rs s))) []) := by
  have e0 : natsD (rs.map bitsN) = rs.map fun r => PyData.int (bitsN r : Nat) := by simp [natsD]
  have e1 := lc_nm (i := 2) (s := seqI (unS (fldF ("Store" : Str) ("own_deliveries" : Str)) (vS 0))) (e := hrd (fCall f_holds (consS (vS 2) (consS (vS 1) nilS)))) (ρ := [some (.val (storeW' S (rs.map bitsN) es)), some (.val (.dat (.int s))), none]) rs (fun r => .int (bitsN r : Nat)) (fun r => .bool (decide (s ∈ r))) (by simp [fld_deliveries, e0]) rfl free_none (fun r hm => by
    have t1 := holds_in h1 (hr _ hm) s0 s1
    generalize ((bitsN r : Nat) : Int) = B at *
    simp [t1]) (by simp [lim]; omega)
  simp [f_is_named, store_slot, store_outs, e1, namedB]
def gives (rs : List (List Int)) (s o : Int) : List Int := if namedB rs s then (posW rs s o).map fun q => ((q.2 : Nat) : Int) else []
def takes (rs ss : List (List Int)) (s o : Int) : List Int := if namedB rs s then (posW ss o s).map fun q => ((q.2 : Nat) : Int) else []
theorem F_blame_of {S s o : Int} {rs ss : List (List Int)} (h1 : S ≤ 8) (hr : ∀ r ∈ rs, Good S r) (hs : ∀ r ∈ ss, Good S r) (hl : rs.length ≤ 8) (hl2 : ss.length ≤ 8) (s0 : 0 ≤ s) (s1 : s < S) (o0 : 0 ≤ o) (o1 : o < S) :
    f_blame_of [storeW' S (rs.map bitsN) (ss.map bitsN), .dat (.int s), .dat (.int o)] = some (.ret (.dat (.tuple [.list ((gives rs s o).map PyData.int), .list ((takes rs ss s o).map PyData.int)])) []) := by
  have e1 := F_is_named (es := ss.map bitsN) h1 hr hl s0 s1
  have e2 := F_positions h1 hr hl s0 s1 o0 o1
  have e3 := F_positions h1 hs hl2 o0 o1 s0 s1
  rw [map_int (fun q : List Int × Nat => ((q.2 : Nat) : Int))] at e2 e3
  unfold gives takes
  cases hn : namedB rs s with
  | false =>
    rw [hn] at e1
    simp [f_blame_of, store_slot, store_outs, store_dat, e1, tupF, lstF, lim]
  | true =>
    rw [hn] at e1
    simp only [if_true]
    generalize (posW rs s o).map (fun q => ((q.2 : Nat) : Int)) = g at *
    generalize (posW ss o s).map (fun q => ((q.2 : Nat) : Int)) = t at *
    simp [f_blame_of, store_slot, store_outs, store_dat, fld_deliveries, fld_sales, e1, e2, e3, tupF, lstF, lim]
end K46

namespace K46
open PySem PySem.Spec L2 Py
/-! ### the plain law of rows above -/
theorem pos_some {rs : List (List Int)} {s o : Int} {i : Nat} : ((i : Nat) : Int) ∈ (posW rs s o).map (fun q => ((q.2 : Nat) : Int)) ↔ i < rs.length ∧ s ∈ getR rs i ∧ o ∉ getR rs i := by
  rw [List.mem_map]
  constructor
  · rintro ⟨⟨r, j⟩, h, e⟩
    have e : ((j : Nat) : Int) = (i : Nat) := e
    have e : j = i := by omega
    subst e
    unfold posW at h
    rw [List.mem_filter, List.mk_mem_zipIdx_iff_getElem?, Bool.and_eq_true, Bool.not_eq_true', decide_eq_true_eq, decide_eq_false_iff_not] at h
    obtain ⟨h1, h2, h3⟩ := h
    have e : getR rs j = r := by
      unfold getR
      rw [List.getD_eq_getElem?_getD, h1]
      rfl
    rw [e]
    exact ⟨(List.getElem?_eq_some_iff.mp h1).1, h2, h3⟩
  · rintro ⟨h1, h2, h3⟩
    refine ⟨(getR rs i, i), ?_, rfl⟩
    unfold posW
    rw [List.mem_filter, List.mk_mem_zipIdx_iff_getElem?, Bool.and_eq_true, Bool.not_eq_true', decide_eq_true_eq, decide_eq_false_iff_not]
    refine ⟨?_, h2, h3⟩
    unfold getR
    rw [List.getD_eq_getElem?_getD, List.getElem?_eq_getElem h1]
    rfl
/-- where nobody is to blame, the shelf is never above the other -/
theorem never_step {S s o : Int} {rs ss : List (List Int)} (hg : gives rs s o = []) (ht : takes rs ss s o = []) (l : List Int) (p : Bool × Nat) (hl : Good S l) (hq : s ∈ l → o ∈ l) (hp : goodP rs.length ss.length p) (hn : namedB rs s = true) : s ∈ stepL rs ss l p → o ∈ stepL rs ss l p := by
  unfold gives at hg
  unfold takes at ht
  rw [hn, if_pos rfl] at hg ht
  obtain ⟨b, i⟩ := p
  cases b with
  | true =>
    have gi : i < rs.length := by simpa [goodP] using hp
    intro h
    rcases mem_laid.mp h with h | h
    · exact mem_laid.mpr (.inl (hq h))
    · refine mem_laid.mpr (.inr (Classical.byContradiction fun z => ?_))
      have := pos_some.mpr ⟨gi, h, z⟩
      rw [hg] at this
      cases this
  | false =>
    have gi : i < ss.length := by simpa [goodP] using hp
    intro h
    obtain ⟨h1, h2⟩ := mem_off.mp h
    refine mem_off.mpr ⟨hq h1, fun z => ?_⟩
    have := pos_some.mpr ⟨gi, z, h2⟩
    rw [ht] at this
    cases this
end K46

namespace K46
open PySem PySem.Spec L2 Py
/-- not named at all: no step brings the shelf -/
theorem unnamed_step {s : Int} {rs ss : List (List Int)} (hn : namedB rs s = false) (l : List Int) (p : Bool × Nat) (hq : s ∉ l) (hp : goodP rs.length ss.length p) : s ∉ stepL rs ss l p := by
  obtain ⟨b, i⟩ := p
  cases b with
  | true =>
    have gi : i < rs.length := by simpa [goodP] using hp
    intro h
    rcases mem_laid.mp h with h | h
    · exact hq h
    · have : namedB rs s = true := List.any_eq_true.mpr ⟨_, getR_mem gi, by simpa using h⟩
      rw [hn] at this
      cases this
  | false =>
    intro h
    exact hq (mem_off.mp h).1
/-- a closed family holds what the rows reach -/
theorem closed_step {S : Int} {rs ss F : List (List Int)} (hc : closedL rs ss F = true) {l : List Int} (hl : l ∈ F) {p : Bool × Nat} (hp : goodP rs.length ss.length p) : stepL rs ss l p ∈ F := by
  unfold closedL at hc
  rw [Bool.and_eq_true, List.all_eq_true] at hc
  have := hc.2 l hl
  rw [← able_all, List.all_eq_true] at this
  simpa using this p (mem_able.mpr hp)
theorem closed_nil {rs ss F : List (List Int)} (hc : closedL rs ss F = true) : [] ∈ F := by
  unfold closedL at hc
  rw [Bool.and_eq_true, decide_eq_true_eq] at hc
  exact hc.1
/-- some flat holds s and not o, iff somebody is to blame -/
theorem due_iff {S s o : Int} {rs ss F : List (List Int)} (hc : closedL rs ss F = true) (hF : ∀ l ∈ F, (s ∈ l → o ∈ l) ∨ gives rs s o ≠ [] ∨ takes rs ss s o ≠ []) :
    (F.any fun l => decide (s ∈ l) && !decide (o ∈ l)) = (decide (gives rs s o ≠ []) || decide (takes rs ss s o ≠ [])) := by
  rw [Bool.eq_iff_iff, List.any_eq_true, Bool.or_eq_true, decide_eq_true_eq, decide_eq_true_eq]
  constructor
  · rintro ⟨l, hl, h⟩
    rw [Bool.and_eq_true, Bool.not_eq_true', decide_eq_true_eq, decide_eq_false_iff_not] at h
    rcases hF l hl with h2 | h2
    · exact absurd (h2 h.1) h.2
    · exact h2
  · intro h
    by_cases hg : gives rs s o = []
    · have ht : takes rs ss s o ≠ [] := by
        rcases h with h | h
        · exact absurd hg h
        · exact h
      have hn : namedB rs s = true := by
        cases e : namedB rs s with
        | true => rfl
        | false => simp [takes, e] at ht
      unfold gives at hg
      unfold takes at ht
      rw [hn, if_pos rfl] at hg ht
      obtain ⟨x, hx⟩ := List.exists_mem_of_ne_nil _ ht
      obtain ⟨q, hq, rfl⟩ := List.mem_map.mp hx
      have ht2 := pos_some.mp (List.mem_map.mpr ⟨q, hq, rfl⟩)
      unfold namedB at hn
      rw [List.any_eq_true] at hn
      obtain ⟨r, hr, hsr⟩ := hn
      obtain ⟨i, hi, ei⟩ := List.getElem_of_mem hr
      have er : getR rs i = r := by
        unfold getR
        rw [List.getD_eq_getElem?_getD, List.getElem?_eq_getElem hi]
        exact ei
      have m1 := closed_step (S := S) hc (closed_nil hc) (p := (true, i)) (by simpa [goodP] using hi)
      have m2 := closed_step (S := S) hc m1 (p := (false, q.2)) (by simpa [goodP] using ht2.1)
      refine ⟨_, m2, ?_⟩
      rw [Bool.and_eq_true, Bool.not_eq_true', decide_eq_true_eq, decide_eq_false_iff_not]
      refine ⟨mem_off.mpr ⟨mem_laid.mpr (.inr ?_), ht2.2.2⟩, fun z => (mem_off.mp z).2 ht2.2.1⟩
      show s ∈ getR rs i
      rw [er]
      simpa using hsr
    · have hn : namedB rs s = true := by
        cases e : namedB rs s with
        | true => rfl
        | false => simp [gives, e] at hg
      unfold gives at hg
      rw [hn, if_pos rfl] at hg
      obtain ⟨x, hx⟩ := List.exists_mem_of_ne_nil _ hg
      obtain ⟨q, hq, rfl⟩ := List.mem_map.mp hx
      have h2 := pos_some.mp (List.mem_map.mpr ⟨q, hq, rfl⟩)
      refine ⟨_, closed_step (S := S) hc (closed_nil hc) (p := (true, q.2)) (by simpa [goodP] using h2.1), ?_⟩
      rw [Bool.and_eq_true, Bool.not_eq_true', decide_eq_true_eq, decide_eq_false_iff_not]
      refine ⟨mem_laid.mpr (.inr h2.2.1), fun z => ?_⟩
      rcases mem_laid.mp z with z | z
      · cases z
      · exact h2.2.2 z
end K46

namespace K46
open PySem PySem.Spec L2 Py
/-! ### the lots that a store keeps -/
theorem closeD_nil (ds es found : List Nat) (n : Nat) : closeD ds es n found [] = found := by cases n <;> rfl
theorem closeD_step {ds es found W : List Nat} {n b : Nat} (h : W.getLast? = some b) : closeD ds es (n + 1) found W = if b ∈ found then closeD ds es n found W.dropLast else closeD ds es n (found ++ [b]) (W.dropLast ++ (ledOn ds es b).filter fun x => !decide (x ∈ found ++ [b])) := by
  cases W with
  | nil => cases h
  | cons w ws =>
    show (match (w :: ws).getLast? with
      | none => found
      | some b => if b ∈ found then closeD ds es n found (w :: ws).dropLast else closeD ds es n (found ++ [b]) ((w :: ws).dropLast ++ (ledOn ds es b).filter fun x => !decide (x ∈ found ++ [b]))) = _
    rw [h]
theorem less_xor (b k : Nat) : b ^^^ (b &&& k) = b - (b &&& k) := by
  refine Nat.eq_of_testBit_eq fun i => ?_
  rw [testBit_less, Nat.testBit_xor, Nat.testBit_and]
  cases b.testBit i <;> cases k.testBit i <;> rfl
theorem led_lt {ds es : List Nat} {b x : Nat} (hd : ∀ k ∈ ds, k < 256) (hb : b < 256) (hx : x ∈ ledOn ds es b) : x < 256 := by
  unfold ledOn at hx
  rcases List.mem_append.mp hx with hx | hx
  · obtain ⟨k, hk, rfl⟩ := List.mem_map.mp hx
    exact Nat.or_lt_two_pow (n := 8) hb (hd k hk)
  · obtain ⟨k, hk, rfl⟩ := List.mem_map.mp hx
    rw [less_xor]
    omega
theorem led_len (ds es : List Nat) (b : Nat) : (ledOn ds es b).length = ds.length + es.length := by simp [ledOn]
theorem nat_len {F : List Nat} (nd : F.Nodup) (h : ∀ b ∈ F, b < 256) : F.length ≤ 256 := by
  have := in_range_len (S := 256) (ns := F.map fun b => ((b : Nat) : Int)) (List.Pairwise.map (S := (· ≠ ·)) (fun b : Nat => ((b : Nat) : Int)) (fun a b h e => h (by omega)) nd) (fun n hn => by
    obtain ⟨b, hb, rfl⟩ := List.mem_map.mp hn
    have := h b hb
    omega)
  simpa using this
theorem close_run {ds es : List Nat} (hd : ∀ k ∈ ds, k < 256) (l1 : ds.length ≤ 8) (l2 : es.length ≤ 8) {P : Nat → Prop} (hP : ∀ b, P b → ∀ x ∈ ledOn ds es b, P x) : ∀ (n : Nat) (found W : List Nat), (256 - found.length) * 17 + W.length < n → found.Nodup → (∀ b, b ∈ found ∨ b ∈ W → b < 256 ∧ P b) → (∀ b ∈ found, ∀ x ∈ ledOn ds es b, x ∈ found ∨ x ∈ W) →
    (closeD ds es n found W).Nodup ∧ (∀ b ∈ closeD ds es n found W, b < 256 ∧ P b) ∧ (∀ b ∈ closeD ds es n found W, ∀ x ∈ ledOn ds es b, x ∈ closeD ds es n found W) ∧ ∀ b, b ∈ found ∨ b ∈ W → b ∈ closeD ds es n found W
  | 0, _, _, h, _, _, _ => absurd h (Nat.not_lt_zero _)
  | n + 1, found, W, hm, nd, hb, hc => by
    cases hw : W.getLast? with
    | none =>
      have : W = [] := List.getLast?_eq_none_iff.mp hw
      subst this
      rw [closeD_nil]
      exact ⟨nd, fun b h => hb b (.inl h), fun b h x hx => (hc b h x hx).elim id (fun z => nomatch z), fun b h => h.elim id (fun z => nomatch z)⟩
    | some b =>
      rw [closeD_step hw]
      have hW : W = W.dropLast ++ [b] := by
        obtain ⟨l, e⟩ := List.getLast?_eq_some_iff.mp hw
        rw [e]
        simp
      have wl : W.length = W.dropLast.length + 1 := by
        have := congrArg List.length hW
        rw [List.length_append, List.length_singleton] at this
        exact this
      have mw : ∀ x, x ∈ W ↔ x ∈ W.dropLast ∨ x = b := fun x => by conv => lhs; rw [hW]; simp
      by_cases hf : b ∈ found
      · rw [if_pos hf]
        obtain ⟨r1, r2, r3, r4⟩ := close_run hd l1 l2 hP n found W.dropLast (by omega) nd (fun x hx => hb x (hx.imp id fun z => (mw x).mpr (.inl z))) (fun c hc' x hx => (hc c hc' x hx).elim .inl fun z => ((mw x).mp z).elim .inr fun e => .inl (by rw [e]; exact hf))
        exact ⟨r1, r2, r3, fun x hx => hx.elim (fun z => r4 x (.inl z)) fun z => ((mw x).mp z).elim (fun y => r4 x (.inr y)) fun e => r4 x (.inl (by rw [e]; exact hf))⟩
      · rw [if_neg hf]
        have bb := hb b (.inr ((mw b).mpr (.inr rfl)))
        have nd2 : (found ++ [b]).Nodup := List.nodup_append.mpr ⟨nd, by simp, fun x hx y hy e => by simp at hy; subst hy e; exact hf hx⟩
        have b2 : ∀ x ∈ found ++ [b], x < 256 := fun x hx => by
          rcases List.mem_append.mp hx with hx | hx
          · exact (hb x (.inl hx)).1
          · simp at hx; subst hx; exact bb.1
        have fl := nat_len nd2 b2
        have ll := led_len ds es b
        have fl2 := List.length_filter_le (fun x => !decide (x ∈ found ++ [b])) (ledOn ds es b)
        simp at fl
        obtain ⟨r1, r2, r3, r4⟩ := close_run hd l1 l2 hP n (found ++ [b]) (W.dropLast ++ (ledOn ds es b).filter fun x => !decide (x ∈ found ++ [b])) (by simp only [List.length_append, List.length_cons, List.length_nil]; omega) nd2
          (fun x hx => by
            rcases hx with hx | hx
            · rcases List.mem_append.mp hx with hx | hx
              · exact hb x (.inl hx)
              · simp at hx; subst hx; exact bb
            · rcases List.mem_append.mp hx with hx | hx
              · exact hb x (.inr ((mw x).mpr (.inl hx)))
              · have := (List.mem_filter.mp hx).1
                exact ⟨led_lt hd bb.1 this, hP b bb.2 x this⟩)
          (fun c hc' x hx => by
            by_cases hx2 : x ∈ found ++ [b]
            · exact .inl hx2
            · rcases List.mem_append.mp hc' with hc' | hc'
              · rcases hc c hc' x hx with z | z
                · exact .inl (List.mem_append_left _ z)
                · rcases (mw x).mp z with y | y
                  · exact .inr (List.mem_append_left _ y)
                  · exact absurd (List.mem_append_right _ (by simp [y])) hx2
              · simp at hc'
                subst hc'
                exact .inr (List.mem_append_right _ (List.mem_filter.mpr ⟨hx, by simp only [Bool.not_eq_true', decide_eq_false_iff_not]; exact hx2⟩)))
        exact ⟨r1, r2, r3, fun x hx => hx.elim (fun z => r4 x (.inl (List.mem_append_left _ z))) fun z => ((mw x).mp z).elim (fun y => r4 x (.inr (List.mem_append_left _ y))) fun e => r4 x (.inl (List.mem_append_right _ (by simp [e])))⟩
/-- the least closed family -/
theorem flats_are {ds es : List Nat} (hd : ∀ k ∈ ds, k < 256) (l1 : ds.length ≤ 8) (l2 : es.length ≤ 8) : (flatsOf ds es).Nodup ∧ (∀ b ∈ flatsOf ds es, b < 256) ∧ (∀ b ∈ flatsOf ds es, ∀ x ∈ ledOn ds es b, x ∈ flatsOf ds es) ∧ 0 ∈ flatsOf ds es ∧ (flatsOf ds es).length ≤ 256 := by
  obtain ⟨r1, r2, r3, r4⟩ := close_run (P := fun _ => True) hd l1 l2 (fun _ _ _ _ => trivial) 100000 [] [0] (by decide) (by simp) (fun b h => by simp at h; subst h; exact ⟨by decide, trivial⟩) (by simp)
  exact ⟨r1, fun b h => (r2 b h).1, r3, r4 0 (.inr (by simp)), nat_len r1 fun b h => (r2 b h).1⟩
theorem flats_ind {ds es : List Nat} (hd : ∀ k ∈ ds, k < 256) (l1 : ds.length ≤ 8) (l2 : es.length ≤ 8) {P : Nat → Prop} (h0 : P 0) (hP : ∀ b, P b → ∀ x ∈ ledOn ds es b, P x) : ∀ b ∈ flatsOf ds es, P b := by
  obtain ⟨_, r2, _, _⟩ := close_run hd l1 l2 hP 100000 [] [0] (by decide) (by simp) (fun b h => by simp at h; subst h; exact ⟨by decide, h0⟩) (by simp)
  exact fun b h => (r2 b h).2
end K46

namespace K46
open PySem PySem.Spec L2 Py
def ledI (b : Int) (ds es : List Nat) : List Int := ds.map (fun k => Builtin.bitOr b (k : Nat)) ++ es.map fun k => Builtin.bitAnd b (Builtin.bitNot (k : Nat))
theorem led_nat (b : Nat) (ds es : List Nat) : ledI (b : Nat) ds es = (ledOn ds es b).map fun x => ((x : Nat) : Int) := by
  unfold ledI ledOn
  rw [List.map_append, List.map_map, List.map_map]
  have h1 : ds.map (fun k : Nat => Builtin.bitOr (b : Int) (k : Int)) = ds.map ((fun x : Nat => ((x : Nat) : Int)) ∘ fun k => b ||| k) := List.map_congr_left fun k _ => bitOr_nat b k
  have h2 : es.map (fun k : Nat => Builtin.bitAnd (b : Int) (Builtin.bitNot (k : Int))) = es.map ((fun x : Nat => ((x : Nat) : Int)) ∘ fun k => b ^^^ (b &&& k)) := List.map_congr_left fun k _ => by
    show Builtin.bitAnd (b : Int) (Builtin.bitNot (k : Int)) = ((b ^^^ (b &&& k) : Nat) : Int)
    rw [bitAndNot_nat, less_xor]
  rw [h1, h2]
theorem led_on {S : Int} {ds es : List Nat} {b : Int} (l1 : ds.length ≤ 8) (l2 : es.length ≤ 8) : f_led_on [storeW' S ds es, .dat (.int b)] = some (.ret (.fresh (.lst ((ledI b ds es).map PyData.int))) []) := by
  have e1 := lc_map (s := seqI (unS (fldF ("Store" : Str) ("own_deliveries" : Str)) (vS 0))) (e := opS gOr (vS 1) (vS 2)) (i := 2) (ρ := [some (.val (storeW' S ds es)), some (.val (.dat (.int b))), none]) (ρ0 := [some (.val (storeW' S ds es)), some (.val (.dat (.int b))), none]) (ds := natsD ds) (x := none)
    (fun d => .int (Builtin.bitOr b (toI d))) (seqI_seq (v := .tuple (natsD ds)) (by simp [fld_deliveries]) rfl) rfl free_none (fun d hd => by
      obtain ⟨k, _, rfl⟩ := List.mem_map.mp hd
      simp [toI]) (by simp [natsD, lim]; omega)
  have e2 := lc_map (s := seqI (unS (fldF ("Store" : Str) ("own_sales" : Str)) (vS 0))) (e := opS gAnd (vS 1) (unS gInv (vS 2))) (i := 2) (ρ := [some (.val (storeW' S ds es)), some (.val (.dat (.int b))), none]) (ρ0 := [some (.val (storeW' S ds es)), some (.val (.dat (.int b))), none]) (ds := natsD es) (x := none)
    (fun d => .int (Builtin.bitAnd b (Builtin.bitNot (toI d)))) (seqI_seq (v := .tuple (natsD es)) (by simp [fld_sales]) rfl) rfl free_none (fun d hd => by
      obtain ⟨k, _, rfl⟩ := List.mem_map.mp hd
      simp [toI]) (by simp [natsD, lim]; omega)
  have e3 : ∀ ρ, gAdd (.fresh (.lst ((natsD ds).map fun d => .int (Builtin.bitOr b (toI d))))) (.fresh (.lst ((natsD es).map fun d => .int (Builtin.bitAnd b (Builtin.bitNot (toI d)))))) ρ = some (.ok (.fresh (.lst ((ledI b ds es).map PyData.int))) ρ) := fun ρ => by
    rw [gAdd_ll rfl rfl (by simp [natsD, lim]; omega)]
    simp [ledI, natsD, List.map_map, Function.comp_def, toI]
  simp [f_led_on, store_slot, store_outs, e1, e2, e3]
theorem led_on_nat {S : Int} {ds es : List Nat} {b : Nat} (l1 : ds.length ≤ 8) (l2 : es.length ≤ 8) : f_led_on [storeW' S ds es, .dat (.int (b : Nat))] = some (.ret (.fresh (.lst ((ledOn ds es b).map fun x => .int ((x : Nat) : Int)))) []) := by
  rw [led_on l1 l2, led_nat, List.map_map]
  rfl
def kd (found : List Nat) : List (Key × D) := found.map fun b => (.inl ((b : Nat) : Int), .bool true)
theorem kd_has (found : List Nat) (b : Nat) : hasK (kd found) (.inl ((b : Nat) : Int)) = decide (b ∈ found) := by
  unfold hasK kd
  rw [Bool.eq_iff_iff, List.any_map, List.any_eq_true, decide_eq_true_eq]
  constructor
  · rintro ⟨c, hc, e⟩
    have e : (Sum.inl ((c : Nat) : Int) : Key) = .inl ((b : Nat) : Int) := of_decide_eq_true e
    have e := Sum.inl.inj e
    have : c = b := by omega
    rw [← this]
    exact hc
  · exact fun h => ⟨b, h, decide_eq_true rfl⟩
def cl (S : Int) (ds es : List Nat) (found Q : List Nat) (x4 x5 : Option Slot) : Env' := [some (.val (storeW' S ds es)), some (.val (.dat (.list []))), some (.own (.dct (kd found))), some (.own (.lst (natD Q))), x4, x5]
theorem cl_in {S : Int} {ds es found Q : List Nat} {x4 x5 : Option Slot} (b : Nat) : gKIn not (.dat (.int (b : Nat))) (.own 2) (cl S ds es found Q x4 x5) = some (.ok (.dat (.bool (!decide (b ∈ found)))) (cl S ds es found Q x4 x5)) := by
  show some (R.ok (W.dat (.bool (!hasK (kd found) (.inl ((b : Nat) : Int))))) _) = _
  rw [kd_has]
theorem cl_body {S : Int} {ds es found Q : List Nat} {b : Nat} {x4 x5 : Option Slot} (l1 : ds.length ≤ 8) (l2 : es.length ≤ 8) (hf : found.length ≤ 256) (hz : Q.length ≤ 10000) (hw : Q.getLast? = some b) (f4 : Free x4) (f5 : Free x5) :
    B_closed_from_1 (cl S ds es found Q x4 x5) = some (.nx (if b ∈ found then cl S ds es found Q.dropLast (some (.val (.dat (.int (b : Nat))))) x5 else cl S ds es (found ++ [b]) (Q.dropLast ++ (ledOn ds es b).filter fun x => !decide (x ∈ found ++ [b])) (some (.val (.dat (.int (b : Nat))))) x5)) := by
  have pd : (natD Q)[(natD Q).length - 1]? = some (.int (b : Nat)) := by
    unfold natD
    rw [List.length_map, List.getElem?_map]
    rw [List.getLast?_eq_getElem?] at hw
    rw [hw]
    rfl
  have pp : popF (.own 3) [] (cl S ds es found Q x4 x5) = some (.ok (.dat (.int (b : Nat))) (cl S ds es found Q.dropLast x4 x5)) := by
    unfold cl
    rw [popF_own (ds := natD Q) rfl pd]
    unfold natD
    rw [← List.map_dropLast]
    rfl
  have ci := cl_in (S := S) (ds := ds) (es := es) (found := found) (Q := Q.dropLast) (x4 := some (.val (.dat (.int (b : Nat))))) (x5 := x5) b
  by_cases hm : b ∈ found
  · rw [if_pos hm]
    rw [decide_eq_true hm] at ci
    unfold cl at *
    unfold B_closed_from_1
    generalize natD Q.dropLast = QD at *
    generalize natD Q = QN at *
    generalize kd found = KD at *
    generalize storeW' S ds es = SW at *
    simp [pp, f4, ci]
  · rw [if_neg hm]
    rw [decide_eq_false hm] at ci
    have kx : kxG (vS 2) (vS 4) (.bool true) (cl S ds es found Q.dropLast (some (.val (.dat (.int (b : Nat))))) x5) = some (.nx (cl S ds es (found ++ [b]) Q.dropLast (some (.val (.dat (.int (b : Nat))))) x5)) := by
      have e : kd (found ++ [b]) = kd found ++ [(.inl ((b : Nat) : Int), .bool true)] := by simp [kd]
      have hk := kd_has found b
      rw [decide_eq_false hm] at hk
      have hl : ¬ (hasK (kd found) (.inl ((b : Nat) : Int)) = true ∨ 1000000 ≤ (kd found).length) := by
        rw [hk]
        simp [kd]
        omega
      unfold cl
      rw [e]
      show (if hasK (kd found) (.inl ((b : Nat) : Int)) = true ∨ 1000000 ≤ (kd found).length then none else some (O.nx _)) = _
      rw [if_neg hl]
      rfl
    have lo := led_on_nat (S := S) (ds := ds) (es := es) (b := b) l1 l2
    have ll := led_len ds es b
    have lc := lc_n (i := 5) (s := seqI (hrd (fCall f_led_on (consS (vS 0) (consS (vS 4) nilS))))) (t := tst (opS (gKIn not) (vS 5) (vS 2))) (e := vS 5) (ρ := cl S ds es (found ++ [b]) Q.dropLast (some (.val (.dat (.int (b : Nat))))) x5) (ledOn ds es b) (fun x => .int ((x : Nat) : Int)) (fun x => !decide (x ∈ found ++ [b])) (fun x => .int ((x : Nat) : Int)) (by
      have sd := store_dat S ds es
      have ss := store_slot S ds es
      have so := store_outs S ds es
      unfold cl
      generalize storeW' S ds es = SW at *
      generalize f_led_on = FL at *
      simp [lo, sd, ss, so]) rfl f5 (fun x hx => by
      have c2 := cl_in (S := S) (ds := ds) (es := es) (found := found ++ [b]) (Q := Q.dropLast) (x4 := some (.val (.dat (.int (b : Nat))))) (x5 := some (.val (.dat (.int (x : Nat))))) x
      unfold cl at c2 ⊢
      generalize natD Q.dropLast = QD at *
      generalize kd (found ++ [b]) = KD at *
      generalize storeW' S ds es = SW at *
      generalize (!decide (x ∈ found ++ [b])) = BB at *
      refine ⟨?_, fun _ => ?_⟩
      · simp [c2]
      · simp) (by simp [lim]; omega)
    have lc' : lcS (seqI (hrd (fCall f_led_on (consS (vS 0) (consS (vS 4) nilS))))) (nmG 5) (tst (opS (gKIn not) (vS 5) (vS 2))) (vS 5) [5] (cl S ds es (found ++ [b]) Q.dropLast (some (.val (.dat (.int (b : Nat))))) x5) = some (.ok (.fresh (.lst (natD ((ledOn ds es b).filter fun x => !decide (x ∈ found ++ [b]))))) (cl S ds es (found ++ [b]) Q.dropLast (some (.val (.dat (.int (b : Nat))))) x5)) := lc
    clear lc
    have fl2 := List.length_filter_le (fun x => !decide (x ∈ found ++ [b])) (ledOn ds es b)
    have ex : extF (.own 3) [.fresh (.lst (natD ((ledOn ds es b).filter fun x => !decide (x ∈ found ++ [b]))))] (cl S ds es (found ++ [b]) Q.dropLast (some (.val (.dat (.int (b : Nat))))) x5) = some (.ok (.dat .none) (cl S ds es (found ++ [b]) (Q.dropLast ++ (ledOn ds es b).filter fun x => !decide (x ∈ found ++ [b])) (some (.val (.dat (.int (b : Nat))))) x5)) := by
      unfold cl
      rw [extF_own (ds := natD Q.dropLast) (es := natD ((ledOn ds es b).filter fun x => !decide (x ∈ found ++ [b]))) rfl rfl (by simp only [natD, List.length_map, List.length_dropLast, lim]; omega)]
      unfold natD
      rw [List.map_append]
      rfl
    generalize (ledOn ds es b).filter (fun x => !decide (x ∈ found ++ [b])) = FF at *
    unfold B_closed_from_1
    generalize lcS (seqI (hrd (fCall f_led_on (consS (vS 0) (consS (vS 4) nilS))))) (nmG 5) (tst (opS (gKIn not) (vS 5) (vS 2))) (vS 5) [5] = LC at *
    generalize kxG (vS 2) (vS 4) = KX at *
    unfold cl at *
    generalize natD (Q.dropLast ++ FF) = QE at *
    generalize natD FF = FN at *
    generalize natD Q.dropLast = QD at *
    generalize natD Q = QN at *
    generalize kd (found ++ [b]) = KE at *
    generalize kd found = KD at *
    generalize storeW' S ds es = SW at *
    simp [pp, f4, ci, kx, lc', ex]
end K46

namespace K46
open PySem PySem.Spec L2 Py
theorem closed_while {S : Int} {ds es : List Nat} (hd : ∀ k ∈ ds, k < 256) (l1 : ds.length ≤ 8) (l2 : es.length ≤ 8) : ∃ x4 x5, whileL (tst (opS gNe (vS 3) (callS lstF nilS))) B_closed_from_1 fuel (cl S ds es [] [0] none none) = some (.nx (cl S ds es (flatsOf ds es) [] x4 x5)) := by
  obtain ⟨ρ', e, x4, x5, rfl⟩ := whileL_meas (c := tst (opS gNe (vS 3) (callS lstF nilS))) (b := B_closed_from_1)
    (fun k ρ => ∃ found Q x4 x5 m, ρ = cl S ds es found Q x4 x5 ∧ Free x4 ∧ Free x5 ∧ found.Nodup ∧ (∀ b, b ∈ found ∨ b ∈ Q → b < 256) ∧ (256 - found.length) * 17 + Q.length = k ∧ k < m ∧ k ≤ 4353 ∧ closeD ds es m found Q = flatsOf ds es)
    (fun ρ => ∃ x4 x5, ρ = cl S ds es (flatsOf ds es) [] x4 x5)
    (fun k ρ ⟨found, Q, x4, x5, m, eρ, f4, f5, nd, hb, hk, hm, hk2, hc⟩ => by
      subst eρ
      have fl := nat_len nd fun b h => hb b (.inl h)
      have c : tst (opS gNe (vS 3) (callS lstF nilS)) (cl S ds es found Q x4 x5) = some (.ok (!decide (Q = [])) (cl S ds es found Q x4 x5)) := by
        have g := gNe_own (ρ := cl S ds es found Q x4 x5) (i := 3) (ds := natD Q) rfl (by
          have := sh_ints (Q.map fun b => ((b : Nat) : Int))
          rw [List.map_map] at this
          exact Sh.shaped this (by decide))
        have dd : decide (natD Q = []) = decide (Q = []) := by
          rw [Bool.eq_iff_iff, decide_eq_true_eq, decide_eq_true_eq]
          unfold natD
          rw [List.map_eq_nil_iff]
        rw [dd] at g
        have v3 : vS 3 (cl S ds es found Q x4 x5) = some (.ok (.own 3) (cl S ds es found Q x4 x5)) := rfl
        have l0 : callS lstF nilS (cl S ds es found Q x4 x5) = some (.ok (.fresh (.lst [])) (cl S ds es found Q x4 x5)) := rfl
        have o := opS_of (g := gNe) v3 l0
        rw [g] at o
        unfold tst
        rw [o]
        rfl
      cases hq : Q.getLast? with
      | none =>
        have q0 : Q = [] := List.getLast?_eq_none_iff.mp hq
        refine .inl ⟨_, by rw [c, decide_eq_true q0]; rfl, x4, x5, ?_⟩
        subst q0
        rw [closeD_nil] at hc
        rw [hc]
      | some b =>
        have qn : Q ≠ [] := fun z => by rw [z] at hq; cases hq
        obtain ⟨m', rfl⟩ : ∃ m', m = m' + 1 := ⟨m - 1, by omega⟩
        rw [closeD_step hq] at hc
        have hQ : Q = Q.dropLast ++ [b] := by
          obtain ⟨l, e⟩ := List.getLast?_eq_some_iff.mp hq
          rw [e]
          simp
        have ql : Q.length = Q.dropLast.length + 1 := by
          have := congrArg List.length hQ
          rw [List.length_append, List.length_singleton] at this
          exact this
        have mw : ∀ x, x ∈ Q.dropLast → x ∈ Q := fun x hx => by rw [hQ]; exact List.mem_append_left _ hx
        have bb := hb b (.inr (by rw [hQ]; simp))
        have bd := cl_body (S := S) (x4 := x4) (x5 := x5) l1 l2 fl (by omega) hq f4 f5
        refine .inr ⟨_, by rw [c, decide_eq_false qn]; rfl, ?_⟩
        by_cases hf : b ∈ found
        · rw [if_pos hf] at bd hc
          exact ⟨_, (256 - found.length) * 17 + Q.dropLast.length, bd, by omega, found, Q.dropLast, _, x5, m', rfl, free_val (.dat (.int (b : Nat))), f5, nd, fun x hx => hb x (hx.imp id (mw x)), rfl, by omega, by omega, hc⟩
        · rw [if_neg hf] at bd hc
          have nd2 : (found ++ [b]).Nodup := List.nodup_append.mpr ⟨nd, by simp, fun x hx y hy e => by simp at hy; subst hy e; exact hf hx⟩
          have b2 : ∀ x ∈ found ++ [b], x < 256 := fun x hx => by
            rcases List.mem_append.mp hx with hx | hx
            · exact hb x (.inl hx)
            · simp at hx; subst hx; exact bb
          have fl2 := nat_len nd2 b2
          have ll := led_len ds es b
          have fl3 := List.length_filter_le (fun x => !decide (x ∈ found ++ [b])) (ledOn ds es b)
          simp only [List.length_append, List.length_cons, List.length_nil] at fl2
          refine ⟨_, (256 - (found ++ [b]).length) * 17 + (Q.dropLast ++ (ledOn ds es b).filter fun x => !decide (x ∈ found ++ [b])).length, bd, ?_, found ++ [b], _, _, x5, m', rfl, free_val (.dat (.int (b : Nat))), f5, nd2, fun x hx => ?_, rfl, ?_, ?_, hc⟩
          · simp only [List.length_append, List.length_cons, List.length_nil]
            omega
          · rcases hx with hx | hx
            · exact b2 x hx
            · rcases List.mem_append.mp hx with hx | hx
              · exact hb x (.inr (mw x hx))
              · exact led_lt hd bb (List.mem_filter.mp hx).1
          · simp only [List.length_append, List.length_cons, List.length_nil]
            omega
          · simp only [List.length_append, List.length_cons, List.length_nil]
            omega)
    fuel 4353 (cl S ds es [] [0] none none) (by unfold fuel; omega) ⟨[], [0], none, none, 100000, rfl, free_none, free_none, by simp, fun b h => by simp at h; omega, by decide, by decide, by decide, rfl⟩
  exact ⟨x4, x5, e⟩
theorem closed_run {WH : SS} {SW : W} {x4 x5 : Option Slot} {KD : List (Key × D)} {FD : List D} (sd : isDat SW = true) (ss : argSlot SW = some (.val SW)) (so : ∀ ws i ρ, outsE (SW :: ws) i ρ = outsE ws (i + 1) ρ)
    (e : WH [some (.val SW), some (.val (.dat (.list []))), some (.own (.dct [])), some (.own (.lst [.int 0])), none, none] = some (.nx [some (.val SW), some (.val (.dat (.list []))), some (.own (.dct KD)), some (.own (.lst [])), x4, x5])) (hk : KD.map (fun p => keyD p.1) = FD) :
    runF 2 6 (seqS (parS [(2, true), (3, true)] (consS dnS (consS (opS gAdd (callS lstF (consS (cS (.int 0)) nilS)) (callS (cL listF) (consS (vS 1) nilS))) nilS)))
  (seqS WH
  (retS (callS kListF (consS (vS 2) nilS))))) [SW, .dat (.list [])] = some (.ret (.fresh (.lst FD)) []) := by
  have ga : ∀ ρ, gAdd (.fresh (.lst [.int 0])) (.fresh (.lst [])) ρ = some (.ok (.fresh (.lst [.int 0])) ρ) := fun ρ => gAdd_ll (xs := [.int 0]) (ys := []) rfl rfl (by simp [lim])
  have kl : kListF [.own 2] [some (.val SW), some (.val (.dat (.list []))), some (.own (.dct KD)), some (.own (.lst [])), x4, x5] = some (.ok (.fresh (.lst FD)) [some (.val SW), some (.val (.dat (.list []))), some (.own (.dct KD)), some (.own (.lst [])), x4, x5]) := by
    rw [← hk]
    rfl
  have lf : ∀ ρ, cL listF [.dat (.list [])] ρ = some (.ok (.fresh (.lst [])) ρ) := fun ρ => rfl
  simp [ss, so, sd, lstF, lim, lf, ga, e, kl]
theorem F_closed_from {S : Int} {ds es : List Nat} (hd : ∀ k ∈ ds, k < 256) (l1 : ds.length ≤ 8) (l2 : es.length ≤ 8) : f_closed_from [storeW' S ds es, .dat (.list [])] = some (.ret (.fresh (.lst (natD (flatsOf ds es)))) []) := by
  obtain ⟨x4, x5, e⟩ := closed_while (S := S) hd l1 l2
  exact closed_run (store_dat S ds es) (store_slot S ds es) (store_outs S ds es) e (by unfold kd natD; rw [List.map_map]; rfl)
theorem kept_store {S : Int} {ds es : List Nat} (hd : ∀ k ∈ ds, k < 256) (l1 : ds.length ≤ 8) (l2 : es.length ≤ 8) : ∃ fs, storeW' S ds es = .obj "Store" fs ∧ keptOf "Store" fs = some (natD (flatsOf ds es)) := by
  refine ⟨_, rfl, ?_⟩
  have n1 : (("own_kept" : Str) == "own_shelves") = false := by decide +kernel
  have n2 : (("own_kept" : Str) == "own_deliveries") = false := by decide +kernel
  have n3 : (("own_kept" : Str) == "own_sales") = false := by decide +kernel
  have n4 : (("own_deliveries" : Str) == "own_shelves") = false := by decide +kernel
  have n5 : (("own_sales" : Str) == "own_shelves") = false := by decide +kernel
  have n6 : (("own_sales" : Str) == "own_deliveries") = false := by decide +kernel
  have hn : ∀ ks, natsOf (natsD ks) = some ks := natsOf_nat
  have hl : (flatsOf ds es).length ≤ lim := by have := (flats_are hd l1 l2 (es := es)).2.2.2.2; simp [lim]; omega
  unfold keptOf
  simp [List.lookup, n1, n2, n3, n4, n5, n6, hn, hl]
theorem F_flat_bits {S : Int} {ds es : List Nat} (hd : ∀ k ∈ ds, k < 256) (l1 : ds.length ≤ 8) (l2 : es.length ≤ 8) : f_flat_bits [storeW' S ds es] = some (.ret (.fresh (.lst (natD (flatsOf ds es)))) []) := by
  have e := F_closed_from (S := S) (es := es) hd l1 l2
  obtain ⟨fs, hs, hk⟩ := kept_store (S := S) (es := es) hd l1 l2
  have sd := store_dat S ds es
  have ss := store_slot S ds es
  have so := store_outs S ds es
  have c : fCall f_closed_from (consS (vS 0) (consS (hrd (callS lstF nilS)) nilS)) [some (.val (storeW' S ds es))] = some (.ok (.fresh (.lst (natD (flatsOf ds es)))) [some (.val (storeW' S ds es))]) := by
    generalize storeW' S ds es = SW at *
    generalize f_closed_from = FC at *
    simp [e, sd, ss, so, lstF, lim]
  have k : keepS (fCall f_closed_from (consS (vS 0) (consS (hrd (callS lstF nilS)) nilS))) [some (.val (storeW' S ds es))] = some (.ret (.fresh (.lst (natD (flatsOf ds es)))) [some (.val (storeW' S ds es))]) := by
    rw [hs] at c ⊢
    exact keep_at rfl hk c
  unfold f_flat_bits
  generalize keepS (fCall f_closed_from (consS (vS 0) (consS (hrd (callS lstF nilS)) nilS))) = KS at *
  generalize storeW' S ds es = SW at *
  simp [runF, startE, ss, k, finF, so, outsE]
end K46

namespace K46
open PySem PySem.Spec L2 Py
/-! ### the kept lots are the flat lots of the law -/
theorem bits_laid {S : Int} {l k : List Int} (hl : Good S l) (hk : Good S k) : bitsN l ||| bitsN k = bitsN (laid l k) := by
  refine Nat.eq_of_testBit_eq fun i => ?_
  rw [Nat.testBit_or, testBit_bits (nn hl), testBit_bits (nn hk), testBit_bits (nn (good_laid hl hk)), Bool.eq_iff_iff]
  simp [mem_laid]
theorem bits_off {S : Int} {l k : List Int} (hl : Good S l) (hk : Good S k) : bitsN l ^^^ (bitsN l &&& bitsN k) = bitsN (off l k) := by
  refine Nat.eq_of_testBit_eq fun i => ?_
  rw [less_xor, testBit_less, testBit_bits (nn hl), testBit_bits (nn hk), testBit_bits (nn (good_off hl)), Bool.eq_iff_iff]
  simp [mem_off]
theorem bits_256 {S : Int} {rs : List (List Int)} (h1 : S ≤ 8) (hr : ∀ r ∈ rs, Good S r) : ∀ k ∈ rs.map bitsN, k < 256 := fun k hk => by
  obtain ⟨r, hm, rfl⟩ := List.mem_map.mp hk
  exact bits_lt (n := 8) fun m h => by have := (hr r hm).2 m h; omega
theorem flat_good {S : Int} {rs ss : List (List Int)} (h1 : S ≤ 8) (hr : ∀ r ∈ rs, Good S r) (hs : ∀ r ∈ ss, Good S r) (hl : rs.length ≤ 8) (hl2 : ss.length ≤ 8) : ∀ b ∈ flatsOf (rs.map bitsN) (ss.map bitsN), ∃ l, Good S l ∧ b = bitsN l := by
  refine flats_ind (P := fun b => ∃ l, Good S l ∧ b = bitsN l) (bits_256 h1 hr) (by simpa using hl) (by simpa using hl2) ⟨[], good_nil S, rfl⟩ ?_
  rintro b ⟨l, g, rfl⟩ x hx
  unfold ledOn at hx
  rcases List.mem_append.mp hx with hx | hx
  · obtain ⟨k, hk, rfl⟩ := List.mem_map.mp hx
    obtain ⟨r, hm, rfl⟩ := List.mem_map.mp hk
    exact ⟨_, good_laid g (hr r hm), bits_laid g (hr r hm)⟩
  · obtain ⟨k, hk, rfl⟩ := List.mem_map.mp hx
    obtain ⟨r, hm, rfl⟩ := List.mem_map.mp hk
    exact ⟨_, good_off g, bits_off g (hs r hm)⟩
theorem flat_in {S : Int} {rs ss F : List (List Int)} (h1 : S ≤ 8) (hr : ∀ r ∈ rs, Good S r) (hs : ∀ r ∈ ss, Good S r) (hl : rs.length ≤ 8) (hl2 : ss.length ≤ 8) (hc : closedL rs ss F = true) (gF : ∀ l ∈ F, Good S l) : ∀ b ∈ flatsOf (rs.map bitsN) (ss.map bitsN), ∃ l ∈ F, b = bitsN l := by
  refine flats_ind (P := fun b => ∃ l ∈ F, b = bitsN l) (bits_256 h1 hr) (by simpa using hl) (by simpa using hl2) ⟨[], closed_nil hc, rfl⟩ ?_
  rintro b ⟨l, m, rfl⟩ x hx
  unfold ledOn at hx
  have g := gF l m
  unfold closedL at hc
  rw [Bool.and_eq_true, List.all_eq_true] at hc
  have c := hc.2 l m
  rw [Bool.and_eq_true, List.all_eq_true, List.all_eq_true] at c
  rcases List.mem_append.mp hx with hx | hx
  · obtain ⟨k, hk, rfl⟩ := List.mem_map.mp hx
    obtain ⟨r, hm, rfl⟩ := List.mem_map.mp hk
    exact ⟨_, by simpa using c.1 r hm, bits_laid g (hr r hm)⟩
  · obtain ⟨k, hk, rfl⟩ := List.mem_map.mp hx
    obtain ⟨r, hm, rfl⟩ := List.mem_map.mp hk
    exact ⟨_, by simpa using c.2 r hm, bits_off g (hs r hm)⟩
/-- the invariant to be handed to F_flats -/
theorem flat_step {S : Int} {rs ss : List (List Int)} (h1 : S ≤ 8) (hr : ∀ r ∈ rs, Good S r) (hs : ∀ r ∈ ss, Good S r) (hl : rs.length ≤ 8) (hl2 : ss.length ≤ 8) (l : List Int) (p : Bool × Nat) (g : Good S l) (h : bitsN l ∈ flatsOf (rs.map bitsN) (ss.map bitsN)) (hp : goodP rs.length ss.length p) : bitsN (stepL rs ss l p) ∈ flatsOf (rs.map bitsN) (ss.map bitsN) := by
  have c := (flats_are (es := ss.map bitsN) (bits_256 h1 hr) (by simpa using hl) (by simpa using hl2)).2.2.1 _ h
  obtain ⟨b, i⟩ := p
  cases b with
  | true =>
    have gi : i < rs.length := by simpa [goodP] using hp
    simp only [stepL, if_true]
    rw [← bits_laid g (hr _ (getR_mem gi))]
    exact c _ (List.mem_append_left _ (List.mem_map.mpr ⟨_, List.mem_map.mpr ⟨_, getR_mem gi, rfl⟩, rfl⟩))
  | false =>
    have gi : i < ss.length := by simpa [goodP] using hp
    simp only [stepL, Bool.false_eq_true, if_false]
    rw [← bits_off g (hs _ (getR_mem gi))]
    exact c _ (List.mem_append_right _ (List.mem_map.mpr ⟨_, List.mem_map.mpr ⟨_, getR_mem gi, rfl⟩, rfl⟩))
/-! ### weights -/
def weigh (ws : List Int) (l : List Int) : Int := (l.map (getZ ws)).sum
def WOk (S : Int) (ws : List Int) : Prop := ws.length = S.toNat
theorem F_weight_of {S : Int} {ws l : List Int} (h0 : 2 ≤ S) (h1 : S ≤ 8) (hw : WOk S ws) (hl : Good S l) : f_weight_of [.dat (.tuple (ws.map PyData.int)), .dat (.int (bitsN l : Nat))] = some (.ret (.dat (.int (weigh ws l))) []) := by
  have es : spotsN 8 (bitsN l) = l := by
    rw [spots_bits fun n hn => by have := hl.2 n hn; omega]
    exact lt_unique (sortU_lt l) hl.1 fun x => mem_sortU
  have e0 := F_spots (bitsN l)
  rw [es] at e0
  have l8 := good_len hl h1
  have hw' : ws.length = S.toNat := hw
  generalize ((bitsN l : Nat) : Int) = B at *
  have e1 := lc_nm (i := 2) (s := seqI (hrd (fCall f_spots_of (consS (vS 1) nilS)))) (e := opS gIx (vS 0) (vS 2)) (ρ := [some (.val (.dat (.tuple (ws.map PyData.int)))), some (.val (.dat (.int B))), none]) l PyData.int (fun n => .int (getZ ws n)) (by simp [e0]) rfl free_none (fun n hn => by
    have := hl.2 n hn
    simp [gIx_rowT (ns := ws) this.1 (by omega)]) (by simp [lim]; omega)
  rw [map_int (fun n => getZ ws n)] at e1
  simp [-List.map_map, f_weight_of, e1, weigh]
theorem F_want_weights {S : Int} {ds es : List Nat} {ws : List Int} (h0 : 2 ≤ S) (h1 : S ≤ 8) (hw : WOk S ws) : f_want_weights [storeW' S ds es, .dat (.list (ws.map PyData.int))] = some (.ret (.dat (.tuple (ws.map PyData.int))) []) := by
  have hw' : ws.length = S.toNat := hw
  have e1 := lc_nm (i := 2) (s := seqI (vS 1)) (e := hrd (fCall f_is_integer (consS (vS 2) nilS))) (ρ := [some (.val (storeW' S ds es)), some (.val (.dat (.list (ws.map PyData.int)))), none]) ws PyData.int (fun _ => .bool true) (by simp) rfl free_none (fun n hn => by simp) (by simp [lim]; omega)
  rw [map_bool (fun _ : Int => true)] at e1
  have hl : ((ws.length : Nat) : Int) = S := by omega
  have ha : allF [.list ((ws.map fun _ => true).map PyData.bool)] = some (.bool true) := by
    rw [allF_bools]
    simp
  simp [-List.map_map, f_want_weights, store_slot, store_outs, store_dat, fld_shelves, hl, e1, ha]
def staysB (ws : List Int) (F : List (List Int)) : Bool := F.all fun l => decide (weigh ws l ≤ 0)
theorem rising_run {WO FB : FS} {SW : W} {BS : List Nat} {W : D} (p : Nat → Bool) (sd : isDat SW = true) (ss : argSlot SW = some (.val SW)) (so : ∀ ws i ρ, outsE (SW :: ws) i ρ = outsE ws (i + 1) ρ) (ef : FB [SW] = some (.ret (.fresh (.lst (natD BS))) [])) (ew : ∀ b ∈ BS, ∃ z : Int, WO [.dat W, .dat (.int (b : Nat))] = some (.ret (.dat (.int z)) []) ∧ decide (0 < z) = p b) :
    ∃ w, runF 2 3 (seqS (forS (seqI (hrd (fCall FB (consS (vS 0) nilS)))) (nmG 2) (ifS (tst (opS gGt (fCall WO (consS (vS 1) (consS (vS 2) nilS))) (cS (.int 0)))) (retS (vS 2)) nxS)) (retS (cS .none))) [SW, .dat W] = some (.ret (.dat w) []) ∧ (w = .none ↔ BS.any p = false) := by
  rcases for_findI (f := nmG 2) (b := ifS (tst (opS gGt (fCall WO (consS (vS 1) (consS (vS 2) nilS))) (cS (.int 0)))) (retS (vS 2)) nxS) (fun b : Nat => PyData.int ((b : Nat) : Int)) (fun ρ => ∃ x, Free x ∧ ρ = [some (.val SW), some (.val (.dat W)), x]) p (fun b => .dat (.int (b : Nat))) BS (fun b hb ρ hi => by
    obtain ⟨x, hx, rfl⟩ := hi
    obtain ⟨z, e, hz⟩ := ew b hb
    have fb := free_val (.dat (.int (b : Nat)))
    cases hp : p b with
    | true =>
      have hz' : (0 : Int) < z := by rw [hp] at hz; simpa using hz
      refine .inl ⟨rfl, [some (.val SW), some (.val (.dat W)), some (.val (.dat (.int (b : Nat))))], ?_⟩
      generalize ((b : Nat) : Int) = B at *
      simp [hx, e, hz']
    | false =>
      have hz' : ¬ (0 : Int) < z := by rw [hp] at hz; simpa using hz
      refine .inr ⟨rfl, [some (.val SW), some (.val (.dat W)), some (.val (.dat (.int (b : Nat))))], ⟨_, fb, rfl⟩, .inl ?_⟩
      generalize ((b : Nat) : Int) = B at *
      simp [hx, e, hz']) [some (.val SW), some (.val (.dat W)), none] ⟨none, free_none, rfl⟩ with ⟨b, hf, ρ', e⟩ | ⟨hf, ρ', ⟨x, hx, rfl⟩, e⟩
  · refine ⟨.int (b : Nat), ?_, ?_⟩
    · have e' : forL (nmG 2) (ifS (tst (opS gGt (fCall WO (consS (vS 1) (consS (vS 2) nilS))) (cS (.int 0)))) (retS (vS 2)) nxS) (natD BS) [some (.val SW), some (.val (.dat W)), none] = some (.ret (.dat (.int (b : Nat))) ρ') := e
      generalize natD BS = NB at *
      generalize ((b : Nat) : Int) = B at *
      simp [ss, sd, so, ef, e']
    · have := List.find?_some hf
      have m := List.mem_of_find?_eq_some hf
      simp only [reduceCtorEq, false_iff, Bool.not_eq_false, List.any_eq_true]
      exact ⟨b, m, this⟩
  · refine ⟨.none, ?_, ?_⟩
    · have e' : forL (nmG 2) (ifS (tst (opS gGt (fCall WO (consS (vS 1) (consS (vS 2) nilS))) (cS (.int 0)))) (retS (vS 2)) nxS) (natD BS) [some (.val SW), some (.val (.dat W)), none] = some (.nx [some (.val SW), some (.val (.dat W)), x]) := e
      generalize natD BS = NB at *
      simp [ss, sd, so, ef, e']
    · simp only [true_iff, List.any_eq_false]
      exact fun b hb => by simpa using List.find?_eq_none.mp hf b hb
end K46

namespace K46
open PySem PySem.Spec L2 Py
/-! ### stays below -/
def isNo : D → Bool
  | .none => true
  | _ => false
theorem F_stays_of {S : Int} {rs ss F : List (List Int)} {ws : List Int} (h0 : 2 ≤ S) (h1 : S ≤ 8) (hr : ∀ r ∈ rs, Good S r) (hs : ∀ r ∈ ss, Good S r) (hl : rs.length ≤ 8) (hl2 : ss.length ≤ 8) (hc : closedL rs ss F = true) (gF : ∀ l ∈ F, Good S l) (iF : ∀ l ∈ F, bitsN l ∈ flatsOf (rs.map bitsN) (ss.map bitsN)) (hw : WOk S ws) :
    f_stays_of [storeW' S (rs.map bitsN) (ss.map bitsN), .dat (.tuple (ws.map PyData.int))] = some (.ret (.dat (.bool (staysB ws F))) []) := by
  have ef := F_flat_bits (S := S) (es := ss.map bitsN) (bits_256 h1 hr) (by simpa using hl) (by simpa using hl2)
  have ew : ∀ b ∈ flatsOf (rs.map bitsN) (ss.map bitsN), ∃ z : Int, f_weight_of [.dat (.tuple (ws.map PyData.int)), .dat (.int (b : Nat))] = some (.ret (.dat (.int z)) []) ∧ decide (0 < z) = decide (0 < weigh ws (sortU (spotsN 8 b))) := fun b hb => by
    obtain ⟨l, g, rfl⟩ := flat_good h1 hr hs hl hl2 b hb
    have e8 : spotsN 8 (bitsN l) = l := by
      rw [spots_bits fun n hn => by have := g.2 n hn; omega]
      exact lt_unique (sortU_lt l) g.1 fun x => mem_sortU
    have eu : sortU l = l := lt_unique (sortU_lt l) g.1 fun x => mem_sortU
    exact ⟨_, F_weight_of h0 h1 hw g, by rw [e8, eu]⟩
  obtain ⟨w, e, hn⟩ := rising_run (WO := f_weight_of) (fun b => decide (0 < weigh ws (sortU (spotsN 8 b)))) (store_dat S (rs.map bitsN) (ss.map bitsN)) (store_slot S (rs.map bitsN) (ss.map bitsN)) (store_outs S (rs.map bitsN) (ss.map bitsN)) ef ew
  have e' : f_rising_bits [storeW' S (rs.map bitsN) (ss.map bitsN), .dat (.tuple (ws.map PyData.int))] = some (.ret (.dat w) []) := e
  have hb : ((flatsOf (rs.map bitsN) (ss.map bitsN)).any fun b => decide (0 < weigh ws (sortU (spotsN 8 b)))) = !staysB ws F := by
    rw [Bool.eq_iff_iff, List.any_eq_true]
    unfold staysB
    rw [Bool.not_eq_true', List.all_eq_false]
    have key : ∀ l, Good S l → sortU (spotsN 8 (bitsN l)) = l := fun l g => by
      rw [spots_bits fun n hn => by have := g.2 n hn; omega]
      exact lt_unique (sortU_lt _) g.1 fun x => by rw [mem_sortU, mem_sortU]
    constructor
    · rintro ⟨b, hb, h⟩
      obtain ⟨l, m, rfl⟩ := flat_in h1 hr hs hl hl2 hc gF b hb
      rw [key l (gF l m)] at h
      exact ⟨l, m, by simpa using h⟩
    · rintro ⟨l, m, h⟩
      refine ⟨_, iF l m, ?_⟩
      rw [key l (gF l m)]
      simpa using h
  rw [hb] at hn
  have sd := store_dat S (rs.map bitsN) (ss.map bitsN)
  have sl := store_slot S (rs.map bitsN) (ss.map bitsN)
  have so := store_outs S (rs.map bitsN) (ss.map bitsN)
  generalize storeW' S (rs.map bitsN) (ss.map bitsN) = SW at *
  have en : f_stays_of [SW, .dat (.tuple (ws.map PyData.int))] = some (.ret (.dat (.bool (isNo w))) []) := by
    generalize ws.map PyData.int = WD at *
    cases w <;> simp [f_stays_of, sd, sl, so, e', isF, isNo]
  rw [en]
  cases hv : staysB ws F with
  | true => rw [hv] at hn; rw [hn.mpr rfl]; rfl
  | false =>
    rw [hv] at hn
    have : w ≠ .none := fun z => by have := hn.mp z; cases this
    have : isNo w = false := by cases w <;> first | rfl | exact absurd rfl this
    rw [this]
/-! ### lots -/
def LotOk (S : Int) (r : List Int) : Prop := r.Nodup ∧ ∀ n ∈ r, 0 ≤ n ∧ n < S
theorem lot_len {S : Int} {r : List Int} (h : LotOk S r) (h1 : S ≤ 8) : r.length ≤ 8 := in_range_len h.1 fun n hn => by have := h.2 n hn; omega
theorem lot_is {S : Int} {r : List Int} {v : D} (h : LotOk S r) (hq : isSeq v = true) (hv : seqOf v = r.map PyData.int) : lotB S v = true := by
  obtain ⟨nd, h3⟩ := h
  have ha : (r.map PyData.int).all (item S) = true := by
    rw [List.all_eq_true]
    intro d hd
    obtain ⟨n, hn, rfl⟩ := List.mem_map.mp hd
    have := h3 n hn
    simp [item, this.1, this.2]
  have e : (r.map PyData.int).map toI = r := by simp [List.map_map, Function.comp_def, toI]
  unfold lotB
  rw [hq, hv, ha, e]
  simp [nd]
theorem F_want_lot_of {S : Int} {ds es : List Nat} {r : List Int} {v : D} (h0 : 2 ≤ S) (h1 : S ≤ 8) (h : LotOk S r) (hq : isSeq v = true) (hv : seqOf v = r.map PyData.int) : f_want_lot_of [storeW' S ds es, .dat v] = some (.ret (.dat (.int (bitsN r : Nat))) []) := by
  have l8 := lot_len h h1
  have e1 := is_lot_of (S := S) (v := v) (by omega) h1 (by rw [hv]; simp; omega)
  rw [lot_is h hq hv] at e1
  have e2 := bits_of hq hv fun n hn => by have := h.2 n hn; omega
  have e3 : f_want_lot [.dat (.int S), .dat v] = some (.ret (.dat (.int (bitsN r : Nat))) []) := by
    generalize ((bitsN r : Nat) : Int) = B at *
    simp [f_want_lot, e1, e2]
  generalize ((bitsN r : Nat) : Int) = B at *
  simp [f_want_lot_of, store_slot, store_outs, store_dat, fld_shelves, e3]
/-- 1 on the lot, -1 on the other one -/
def mark (lot other : List Int) (x : Int) : Int := (if x ∈ lot then 1 else 0) - (if x ∈ other then 1 else 0)
def unlike (S : Int) (lot other : List Int) : List Int := (List.range S.toNat).map fun i : Nat => mark lot other (i : Nat)
theorem bit_one (b i : Nat) : Builtin.bitAnd ((b : Int) / 2 ^ ((i : Nat) : Int).toNat) 1 = if b.testBit i then 1 else 0 := by
  have h := bit_at b i
  rw [PyProof.Rows.bitAnd_m1] at h ⊢
  have : ((b : Int) / 2 ^ ((i : Nat) : Int).toNat) % 2 = 0 ∨ ((b : Int) / 2 ^ ((i : Nat) : Int).toNat) % 2 = 1 := by omega
  rcases this with e | e <;> rw [e] at h ⊢ <;> rw [← h] <;> rfl
theorem F_unlike {S : Int} {ds es : List Nat} {lot other : List Int} (h0 : 2 ≤ S) (h1 : S ≤ 8) (hl : ∀ n ∈ lot, 0 ≤ n) (ho : ∀ n ∈ other, 0 ≤ n) : f_unlike_weights [storeW' S ds es, .dat (.int (bitsN lot : Nat)), .dat (.int (bitsN other : Nat))] = some (.ret (.dat (.tuple ((unlike S lot other).map PyData.int))) []) := by
  obtain ⟨n, hn⟩ : ∃ n : Nat, S = (n : Nat) := ⟨S.toNat, by omega⟩
  have e1 := lc_nm (i := 3) (s := rngI rng1F (consS (unS (fldF ("Store" : Str) ("own_shelves" : Str)) (vS 0)) nilS)) (e := opS gSub (opS gAnd (opS gShr (vS 1) (vS 3)) (cS (.int 1))) (opS gAnd (opS gShr (vS 2) (vS 3)) (cS (.int 1)))) (ρ := [some (.val (storeW' S ds es)), some (.val (.dat (.int (bitsN lot : Nat)))), some (.val (.dat (.int (bitsN other : Nat)))), none]) (List.range S.toNat) (fun i : Nat => .int (i : Nat)) (fun i : Nat => .int (mark lot other (i : Nat))) (by
      have hr := fun ρ => rng1_map (j := S) (ρ := ρ) (by omega) (by omega)
      simp [store_dat, store_slot, store_outs, fld_shelves, hr]) rfl free_none (fun i _ => by
      have b1 := bit_one (bitsN lot) i
      have b2 := bit_one (bitsN other) i
      have t1 := testBit_bits hl (i := i)
      have t2 := testBit_bits ho (i := i)
      rw [t1] at b1
      rw [t2] at b2
      have hi : (0 : Int) ≤ (i : Nat) := by omega
      generalize ((bitsN lot : Nat) : Int) = B1 at *
      generalize ((bitsN other : Nat) : Int) = B2 at *
      simp at b1 b2
      simp [hi, b1, b2, mark]) (by simp [lim]; omega)
  rw [map_int (fun i : Nat => mark lot other (i : Nat))] at e1
  have e2 : unlike S lot other = (List.range S.toNat).map fun i : Nat => mark lot other (i : Nat) := rfl
  rw [← e2] at e1
  generalize ((bitsN lot : Nat) : Int) = B1 at *
  generalize ((bitsN other : Nat) : Int) = B2 at *
  generalize (unlike S lot other).map PyData.int = UD at *
  simp [f_unlike_weights, store_slot, store_outs, store_dat, e1]
/-- the law's own count -/
def dueB (F : List (List Int)) (lot other : List Int) : Bool := F.all fun l => decide ((l.filter fun x => decide (x ∈ lot)).length ≤ (l.filter fun x => decide (x ∈ other)).length)
theorem unlike_ok {S : Int} (lot other : List Int) : WOk S (unlike S lot other) := by simp [WOk, unlike]
theorem weigh_unlike {S : Int} {lot other : List Int} (h0 : 0 ≤ S) : ∀ {l : List Int}, (∀ n ∈ l, 0 ≤ n ∧ n < S) → weigh (unlike S lot other) l = (((l.filter fun x => decide (x ∈ lot)).length : Nat) : Int) - ((l.filter fun x => decide (x ∈ other)).length : Nat)
  | [], _ => rfl
  | n :: l, h => by
    have ih := weigh_unlike h0 (lot := lot) (other := other) (l := l) fun x hx => h x (by simp [hx])
    have hn := h n (by simp)
    have g : getZ (unlike S lot other) n = mark lot other n := by
      unfold getZ unlike
      rw [List.getD_eq_getElem?_getD, List.getElem?_map, List.getElem?_range (by omega)]
      simp
      rw [show max n 0 = n by omega]
    unfold weigh at ih ⊢
    rw [List.map_cons, List.sum_cons, ih, g]
    unfold mark
    by_cases a : n ∈ lot <;> by_cases b : n ∈ other <;> simp [a, b] <;> omega
theorem stays_due {S : Int} {F : List (List Int)} {lot other : List Int} (h0 : 0 ≤ S) (gF : ∀ l ∈ F, Good S l) : staysB (unlike S lot other) F = dueB F lot other := by
  unfold staysB dueB
  rw [Bool.eq_iff_iff, List.all_eq_true, List.all_eq_true]
  refine forall_congr' fun l => forall_congr' fun m => ?_
  rw [weigh_unlike h0 (gF l m).2, decide_eq_true_eq, decide_eq_true_eq]
  omega
theorem F_never_more {S : Int} {rs ss F : List (List Int)} {lot other : List Int} {v v2 : D} (h0 : 2 ≤ S) (h1 : S ≤ 8) (hr : ∀ r ∈ rs, Good S r) (hs : ∀ r ∈ ss, Good S r) (hl : rs.length ≤ 8) (hl2 : ss.length ≤ 8) (hc : closedL rs ss F = true) (gF : ∀ l ∈ F, Good S l) (iF : ∀ l ∈ F, bitsN l ∈ flatsOf (rs.map bitsN) (ss.map bitsN))
    (k1 : LotOk S lot) (k2 : LotOk S other) (hq : isSeq v = true) (hv : seqOf v = lot.map PyData.int) (hq2 : isSeq v2 = true) (hv2 : seqOf v2 = other.map PyData.int) :
    f_never_more [storeW' S (rs.map bitsN) (ss.map bitsN), .dat v, .dat v2] = some (.ret (.dat (.bool (dueB F lot other))) []) := by
  have e0 := F_want_store S (rs.map bitsN) (ss.map bitsN)
  have e1 := F_want_lot_of (ds := rs.map bitsN) (es := ss.map bitsN) h0 h1 k1 hq hv
  have e2 := F_want_lot_of (ds := rs.map bitsN) (es := ss.map bitsN) h0 h1 k2 hq2 hv2
  have e3 := F_unlike (ds := rs.map bitsN) (es := ss.map bitsN) h0 h1 (fun n hn => (k1.2 n hn).1) fun n hn => (k2.2 n hn).1
  have e4 := F_stays_of h0 h1 hr hs hl hl2 hc gF iF (unlike_ok lot other)
  rw [stays_due (by omega) gF] at e4
  have sd := store_dat S (rs.map bitsN) (ss.map bitsN)
  have sl := store_slot S (rs.map bitsN) (ss.map bitsN)
  have so := store_outs S (rs.map bitsN) (ss.map bitsN)
  have sh := store_hard S (rs.map bitsN) (ss.map bitsN)
  have sf := store_slotF S (rs.map bitsN) (ss.map bitsN)
  generalize storeW' S (rs.map bitsN) (ss.map bitsN) = SW at *
  generalize ((bitsN lot : Nat) : Int) = B1 at *
  generalize ((bitsN other : Nat) : Int) = B2 at *
  generalize (unlike S lot other).map PyData.int = UD at *
  generalize dueB F lot other = DB at *
  unfold f_never_more
  generalize f_stays_of = FS1 at *
  generalize f_unlike_weights = FU at *
  generalize f_want_lot_of = FW at *
  generalize f_want_store = FWS at *
  simp [e0, e1, e2, e3, e4, sd, sl, so, sh, sf]
end K46

namespace K46
open PySem PySem.Spec L2 Py
/-! ### drawn lots -/
theorem erase_perm {α : Type} {l : List α} {i : Nat} (h : i < l.length) : (l.eraseIdx i ++ [l[i]]).Perm l := by
  have e : l = l.take i ++ l[i] :: l.drop (i + 1) := by
    rw [List.getElem_cons_drop]
    exact (List.take_append_drop i l).symm
  rw [List.eraseIdx_eq_take_drop_succ]
  conv => rhs; rw [e]
  rw [List.append_assoc]
  refine List.Perm.append_left _ ?_
  exact (List.perm_append_comm).trans (List.Perm.refl _)
theorem popAt_own {i : Nat} {ρ : Env'} {ds : List D} {d : D} {j : Int} (h : cellAt ρ i = some (.lst ds)) (h0 : 0 ≤ j) (h1 : j < (ds.length : Nat)) (hz : ds.length < 1000000) (hd : ds[j.toNat]? = some d) : popAtF (.own i) [.dat (.int j)] ρ = some (.ok (.dat d) (setCell ρ i (.lst (ds.eraseIdx j.toNat)))) := by
  unfold popAtF
  simp only [h, h0, h1, hz, and_self, if_true, hd]
theorem order {a b S : Int} (h : PotOk a b) (h0 : 2 ≤ S) (h1 : S ≤ 8) : ∃ (r : List Int) (a' b' : Int), f__law_order [.fresh (potC a b), .dat (.int S)] = some (.ret (.fresh (.lst (r.map PyData.int))) [potC a' b']) ∧ LotOk S r ∧ PotOk a' b' := by
  obtain ⟨n, hn⟩ : ∃ n : Nat, S = (n : Nat) := ⟨S.toNat, by omega⟩
  have rd : listR1 (.dat (.int S)) = fun ρ => some (.ok (.fresh (.lst (((List.range n).map fun i : Nat => ((i : Nat) : Int)).map PyData.int))) ρ) := by
    funext ρ
    have c : rgC 0 S = true := by unfold rgC; simp; omega
    have e : rngD 0 (S - 0).toNat = ((List.range n).map fun i : Nat => ((i : Nat) : Int)).map PyData.int := by
      rw [hn]
      simp [rngD, List.map_map, Function.comp_def]
    unfold listR1
    rw [view_dat]
    simp only [c, if_true, e]
  obtain ⟨⟨⟨a3, b3⟩, L, F⟩, y, ⟨hp3, hL, hF, nd, rg⟩, hy, e1⟩ := for_inv (f := nmG 4) (b := B__law_order_1) (fun i : Nat => PyData.int (i : Nat))
    (fun (z : (Int × Int) × List Int × List Int) x => [some (.ref (potC z.1.1 z.1.2)), some (.val (.dat (.int S))), some (.own (.lst (z.2.1.map PyData.int))), some (.own (.lst (z.2.2.map PyData.int))), x])
    (fun k z => PotOk z.1.1 z.1.2 ∧ z.2.1.length + k = n ∧ z.2.2.length = k ∧ (z.2.1 ++ z.2.2).Nodup ∧ ∀ x ∈ z.2.1 ++ z.2.2, 0 ≤ x ∧ x < S) (List.range S.toNat) 0
    (fun j i hj z x ⟨hp, hL, hF, nd, rg⟩ hx => by
      obtain ⟨⟨a, b⟩, L, F⟩ := z
      dsimp only at hp hL hF nd rg
      have hjm : j < S.toNat := by
        have := (List.getElem?_eq_some_iff.mp hj).1
        simpa using this
      have lp : 0 < L.length := by omega
      obtain ⟨N, hN⟩ : ∃ N : Int, N = (L.length : Nat) := ⟨_, rfl⟩
      obtain ⟨v, a4, b4, es, s0, s1, hp4⟩ := draw (m := N) hp (by omega) (by omega)
      have hv : v.toNat < L.length := by omega
      have pm := erase_perm hv
      have pm2 : (L.eraseIdx v.toNat ++ (F ++ [L[v.toNat]])).Perm (L ++ F) := by
        have := pm.append_right F
        refine List.Perm.trans ?_ this
        rw [List.append_assoc]
        exact List.Perm.append_left _ List.perm_append_comm
      have ll : lenF [.list (L.map PyData.int)] = some (.int N) := by rw [hN]; simp
      have ed : (L.map PyData.int).eraseIdx v.toNat = (L.eraseIdx v.toNat).map PyData.int := by
        rw [List.eraseIdx_eq_take_drop_succ, List.eraseIdx_eq_take_drop_succ, List.map_append, List.map_take, List.map_drop]
      have pp : ∀ x5, popAtF (.own 2) [.dat (.int v)] [some (.ref (potC a4 b4)), some (.val (.dat (.int S))), some (.own (.lst (L.map PyData.int))), some (.own (.lst (F.map PyData.int))), x5] = some (.ok (.dat (.int L[v.toNat])) [some (.ref (potC a4 b4)), some (.val (.dat (.int S))), some (.own (.lst ((L.eraseIdx v.toNat).map PyData.int))), some (.own (.lst (F.map PyData.int))), x5]) := fun x5 => by
        rw [popAt_own (d := .int L[v.toNat]) (ds := L.map PyData.int) rfl s0 (by simp; omega) (by simp; omega) (by simp [hv]), ed]
        rfl
      have app : ∀ x5, appF (.own 3) [.dat (.int L[v.toNat])] [some (.ref (potC a4 b4)), some (.val (.dat (.int S))), some (.own (.lst ((L.eraseIdx v.toNat).map PyData.int))), some (.own (.lst (F.map PyData.int))), x5] = some (.ok (.dat .none) [some (.ref (potC a4 b4)), some (.val (.dat (.int S))), some (.own (.lst ((L.eraseIdx v.toNat).map PyData.int))), some (.own (.lst ((F ++ [L[v.toNat]]).map PyData.int))), x5]) := fun x5 => by
        rw [appF_own _ rfl (by simp [lim]; omega)]
        simp
      refine ⟨((a4, b4), L.eraseIdx v.toNat, F ++ [L[v.toNat]]), _, ⟨hp4, ?_, by simp; omega, pm2.nodup_iff.mpr nd, fun x hx => rg x (pm2.mem_iff.mp hx)⟩, free_val (.dat (.int (i : Nat))), .inl ?_⟩
      · have := List.length_eraseIdx_of_lt hv
        dsimp only
        omega
      · generalize L[v.toNat] = LV at *
        generalize (L.eraseIdx v.toNat).map PyData.int = LE at *
        generalize (F ++ [LV]).map PyData.int = FE at *
        generalize L.map PyData.int = LM at *
        generalize F.map PyData.int = FM at *
        simp [B__law_order_1, hx, ll, es, pp, app])
    ((a, b), (List.range n).map fun i : Nat => ((i : Nat) : Int), []) none ⟨h, by simp, rfl, by
      simp only [List.append_nil]
      exact List.Pairwise.map (S := (· ≠ ·)) (fun i : Nat => ((i : Nat) : Int)) (fun a b h e => h (by omega)) List.nodup_range, fun x hx => by
      simp only [List.append_nil, List.mem_map, List.mem_range] at hx
      obtain ⟨i, hi, rfl⟩ := hx
      omega⟩ free_none
  have hrng := fun ρ => rng1_map (j := S) (ρ := ρ) (by omega) (by omega)
  refine ⟨F, a3, b3, ?_, ⟨(List.nodup_append.mp nd).2.1, fun x hx => rg x (List.mem_append_right _ hx)⟩, hp3⟩
  dsimp only at e1
  simp only [List.map_nil] at e1
  generalize ((List.range n).map fun i : Nat => ((i : Nat) : Int)).map PyData.int = RM at *
  generalize F.map PyData.int = FM at *
  generalize L.map PyData.int = LM at *
  simp [f__law_order, rd, lstF, lim, hrng, e1]
theorem cutD_sub {α : Type} (xs : List α) (lo hi : Option Int) : (cutD xs lo hi).Sublist xs := (List.take_sublist _ _).trans (List.drop_sublist _ _)
theorem lot_cut {S : Int} {r : List Int} (h : LotOk S r) (lo hi : Option Int) : LotOk S (cutD r lo hi) := ⟨h.1.sublist (cutD_sub _ _ _), fun n hn => h.2 n ((cutD_sub _ _ _).subset hn)⟩
theorem lot {a b S : Int} (h : PotOk a b) (h0 : 2 ≤ S) (h1 : S ≤ 8) : ∃ (r : List Int) (a' b' : Int), f__law_lot [.fresh (potC a b), .dat (.int S)] = some (.ret (.fresh (.lst (r.map PyData.int))) [potC a' b']) ∧ LotOk S r ∧ PotOk a' b' := by
  obtain ⟨r, a1, b1, e1, k, hp1⟩ := order h h0 h1
  obtain ⟨v, a2, b2, e2, v0, v1, hp2⟩ := draw (m := S + 1) hp1 (by omega) (by omega)
  refine ⟨cutD r none (some v), a2, b2, ?_, lot_cut k _ _, hp2⟩
  have l8 := lot_len k h1
  have lc := lc_map (s := seqI (hrd (fCall f__law_order (consS (vS 0) (consS (vS 1) nilS))))) (e := vS 2) (i := 2) (ρ := [some (.ref (potC a b)), some (.val (.dat (.int S))), none]) (ρ0 := [some (.ref (potC a1 b1)), some (.val (.dat (.int S))), none]) (ds := r.map PyData.int) (x := none) (fun d => d) (by simp [e1]) rfl free_none (fun d hd => by simp) (by simp [lim]; omega)
  rw [List.map_id'] at lc
  have cs : ∀ ρ, gSl none (some v) (.fresh (.lst (r.map PyData.int))) ρ = some (.ok (.fresh (.lst ((cutD r none (some v)).map PyData.int))) ρ) := fun ρ => by
    rw [gSl_list (ds := r.map PyData.int) rfl, cutD_map]
  generalize (cutD r none (some v)).map PyData.int = CD at *
  generalize r.map PyData.int = RD at *
  simp [f__law_lot, slS_at, lc, e2, cs]
end K46

namespace K46
open PySem PySem.Spec L2 Py
theorem depth_ints : ∀ ns : List Int, PyData.depthAll (ns.map PyData.int) = 0
  | [] => rfl
  | n :: ns => by simp [PyData.depthAll, PyData.depth, depth_ints ns]
theorem shaped_two (ns ms : List Int) : SeqAt.shaped (.tuple [.list (ns.map PyData.int), .list (ms.map PyData.int)]) = true := by
  have h1 : SeqAt.shaped (.list (ns.map PyData.int)) = true := by simp
  have h2 : SeqAt.shaped (.list (ms.map PyData.int)) = true := by simp
  have d1 := depth_ints ns
  have d2 := depth_ints ms
  simp only [SeqAt.shaped, Bool.and_eq_true] at h1 h2 ⊢
  refine ⟨?_, ?_⟩
  · simp only [PyData.canLay0, PyData.canLayAll0] at h1 h2 ⊢
    simp [h1.1, h2.1]
  · simp [PyData.depth, PyData.depthAll, d1, d2]
theorem eqv_two (A B : List Int) : PyData.eqv (.tuple [.list (A.map PyData.int), .list (B.map PyData.int)]) (.tuple [.list [], .list []]) = (decide (A = []) && decide (B = [])) := by
  cases A <;> cases B <;> simp [PyData.eqv, PyData.eqvAll]
theorem F_never {S s o : Int} {rs ss : List (List Int)} (h1 : S ≤ 8) (hr : ∀ r ∈ rs, Good S r) (hs : ∀ r ∈ ss, Good S r) (hl : rs.length ≤ 8) (hl2 : ss.length ≤ 8) (s0 : 0 ≤ s) (s1 : s < S) (o0 : 0 ≤ o) (o1 : o < S) (hn : o ≠ s) :
    f_never_two_above [storeW' S (rs.map bitsN) (ss.map bitsN), .dat (.int s), .dat (.int o)] = some (.ret (.dat (.bool (decide (gives rs s o = []) && decide (takes rs ss s o = [])))) []) := by
  have e0 := F_want_store S (rs.map bitsN) (ss.map bitsN)
  have e4 := F_want_shelf (ds := rs.map bitsN) (es := ss.map bitsN) s0 s1
  have e5 := F_want_other (S := S) (ds := rs.map bitsN) (es := ss.map bitsN) o0 o1 hn
  have e1 := F_blame_of h1 hr hs hl hl2 s0 s1 o0 o1
  have ge : ∀ ρ, gEq (.dat (.tuple [.list ((gives rs s o).map PyData.int), .list ((takes rs ss s o).map PyData.int)])) (.dat (.tuple [.list [], .list []])) ρ = some (.ok (.dat (.bool (decide (gives rs s o = []) && decide (takes rs ss s o = [])))) ρ) := fun ρ => by
    rw [gEq_of (x := .tuple [.list ((gives rs s o).map PyData.int), .list ((takes rs ss s o).map PyData.int)]) (y := .tuple [.list [], .list []]) rfl rfl (shaped_two _ _) (by decide +kernel), eqv_two]
  have en : f_is_never [storeW' S (rs.map bitsN) (ss.map bitsN), .dat (.int s), .dat (.int o)] = some (.ret (.dat (.bool (decide (gives rs s o = []) && decide (takes rs ss s o = [])))) []) := by
    generalize (decide (gives rs s o = []) && decide (takes rs ss s o = [])) = DB at *
    generalize (gives rs s o).map PyData.int = GD at *
    generalize (takes rs ss s o).map PyData.int = TD at *
    simp [f_is_never, store_slot, store_outs, store_dat, e1, ge, tupF, lstF, lim]
  generalize (decide (gives rs s o = []) && decide (takes rs ss s o = [])) = DB at *
  simp [f_never_two_above, store_slot, store_outs, store_dat, store_hard, store_slotF, e0, e4, e5, en]
/-- two single shelves -/
theorem due_single {S s o : Int} {rs ss F : List (List Int)} (hc : closedL rs ss F = true) (gF : ∀ l ∈ F, Good S l) (hF : ∀ l ∈ F, (s ∈ l → o ∈ l) ∨ gives rs s o ≠ [] ∨ takes rs ss s o ≠ []) : dueB F [s] [o] = (decide (gives rs s o = []) && decide (takes rs ss s o = [])) := by
  have h := due_iff (S := S) hc hF
  have one : ∀ (l : List Int) (x : Int), l.Nodup → (l.filter fun y => decide (y ∈ [x])).length = if x ∈ l then 1 else 0 := by
    intro l x
    induction l with
    | nil => intro _; rfl
    | cons y l ih =>
      intro nd
      have nd' := List.nodup_cons.mp nd
      rw [List.filter_cons]
      by_cases e : y = x
      · subst e
        simp
        exact fun a ha e => nd'.1 (e ▸ ha)
      · have : ¬ x = y := fun z => e z.symm
        have ih' := ih nd'.2
        simp at ih'
        simp [e, this, ih']
  have e : dueB F [s] [o] = !(F.any fun l => decide (s ∈ l) && !decide (o ∈ l)) := by
    unfold dueB
    rw [List.not_any_eq_all_not]
    refine Bool.eq_iff_iff.mpr ?_
    rw [List.all_eq_true, List.all_eq_true]
    refine forall_congr' fun l => forall_congr' fun m => ?_
    have nd : l.Nodup := (gF l m).1.imp fun h => Int.ne_of_lt h
    rw [one l s nd, one l o nd]
    by_cases a : s ∈ l <;> by_cases b : o ∈ l <;> simp [a, b]
  rw [e, h]
  simp
/-! ### the law's count -/
theorem F_law_due {S : Int} {F : List (List Int)} {lot other : List Int} (h1 : S ≤ 8) (gF : ∀ l ∈ F, Good S l) (l32 : F.length ≤ 32) : f__law_due [.dat (.list (F.map rowD)), .dat (.list (lot.map PyData.int)), .dat (.list (other.map PyData.int))] = some (.ret (.dat (.bool (dueB F lot other))) []) := by
  have e1 := lc_nm (i := 3) (s := seqI (vS 0)) (e := opS gLe (callS (cD lenF) (consS (lcS (seqI (vS 3)) (nmG 4) (tst (opS gInT (vS 4) (vS 1))) (vS 4) [4]) nilS)) (callS (cD lenF) (consS (lcS (seqI (vS 3)) (nmG 4) (tst (opS gInT (vS 4) (vS 2))) (vS 4) [4]) nilS)))
    (ρ := [some (.val (.dat (.list (F.map rowD)))), some (.val (.dat (.list (lot.map PyData.int)))), some (.val (.dat (.list (other.map PyData.int)))), none, none]) F rowD (fun l => .bool (decide ((l.filter fun x => decide (x ∈ lot)).length ≤ (l.filter fun x => decide (x ∈ other)).length))) (by simp) rfl free_none (fun l hl => by
      have l8 := good_len (gF l hl) h1
      have c1 := lc_n (i := 4) (s := seqI (vS 3)) (t := tst (opS gInT (vS 4) (vS 1))) (e := vS 4) (ρ := [some (.val (.dat (.list (F.map rowD)))), some (.val (.dat (.list (lot.map PyData.int)))), some (.val (.dat (.list (other.map PyData.int)))), some (.val (.dat (rowD l))), none]) l PyData.int (fun n => decide (n ∈ lot)) PyData.int (by simp [rowD]) rfl free_none (fun n hn => ⟨by simp, fun _ => by simp⟩) (by simp [lim]; omega)
      have c2 := lc_n (i := 4) (s := seqI (vS 3)) (t := tst (opS gInT (vS 4) (vS 2))) (e := vS 4) (ρ := [some (.val (.dat (.list (F.map rowD)))), some (.val (.dat (.list (lot.map PyData.int)))), some (.val (.dat (.list (other.map PyData.int)))), some (.val (.dat (rowD l))), none]) l PyData.int (fun n => decide (n ∈ other)) PyData.int (by simp [rowD]) rfl free_none (fun n hn => ⟨by simp, fun _ => by simp⟩) (by simp [lim]; omega)
      simp [c1, c2]) (by simp [lim]; omega)
  rw [map_bool (fun l : List Int => decide ((l.filter fun x => decide (x ∈ lot)).length ≤ (l.filter fun x => decide (x ∈ other)).length))] at e1
  have ha := allF_bools (F.map fun l => decide ((l.filter fun x => decide (x ∈ lot)).length ≤ (l.filter fun x => decide (x ∈ other)).length))
  have hd : (F.map fun l => decide ((l.filter fun x => decide (x ∈ lot)).length ≤ (l.filter fun x => decide (x ∈ other)).length)).all id = dueB F lot other := by
    rw [List.all_map]
    rfl
  rw [hd] at ha
  generalize (F.map fun l => decide ((l.filter fun x => decide (x ∈ lot)).length ≤ (l.filter fun x => decide (x ∈ other)).length)).map PyData.bool = BD at *
  generalize dueB F lot other = DB at *
  generalize F.map rowD = FD at *
  simp [f__law_due, e1, ha]
theorem due_refl (F : List (List Int)) (lot : List Int) : dueB F lot lot = true := by simp [dueB]
theorem due_trans {F : List (List Int)} {x y z : List Int} (h1 : dueB F x y = true) (h2 : dueB F y z = true) : dueB F x z = true := by
  unfold dueB at *
  rw [List.all_eq_true] at *
  intro l hl
  have a := h1 l hl
  have b := h2 l hl
  simp only [decide_eq_true_eq] at *
  omega
theorem due_nil (F : List (List Int)) (other : List Int) : dueB F [] other = true := by
  unfold dueB
  rw [List.all_eq_true]
  intro l _
  have : (l.filter fun x => decide (x ∈ ([] : List Int))) = [] := List.filter_eq_nil_iff.mpr fun x _ => by simp
  rw [this]
  simp
theorem due_full {S : Int} {F : List (List Int)} (other : List Int) (h0 : 0 ≤ S) (gF : ∀ l ∈ F, Good S l) : dueB F other ((List.range S.toNat).map fun i : Nat => ((i : Nat) : Int)) = true := by
  unfold dueB
  rw [List.all_eq_true]
  intro l hl
  rw [decide_eq_true_eq]
  have e : (l.filter fun x => decide (x ∈ (List.range S.toNat).map fun i : Nat => ((i : Nat) : Int))) = l := by
    refine List.filter_eq_self.mpr fun n hn => ?_
    have := (gF l hl).2 n hn
    rw [decide_eq_true_eq, List.mem_map]
    exact ⟨n.toNat, List.mem_range.mpr (by omega), by omega⟩
  rw [e]
  exact List.length_filter_le _ _
end K46

namespace K46
open PySem PySem.Spec L2 Py
theorem repr_b (b : Bool) (ρ : Env') : cV reprF [.dat (.bool b)] ρ = some (.ok (.dat (.str (PyData.bool b).shown)) ρ) := repr_nice (nice_bool b) (by decide) (by decide) rfl
/-! ### loops -/
section
variable {FN FD : FS} {SW : W} {FL : List D} {Q : List Int → List Int → Bool} {lots : List (List Int)} {x0 x1 x4 : Option Slot}
theorem row_step (sd : isDat SW = true) (ss : argSlot SW = some (.val SW)) (so : ∀ ws i ρ, outsE (SW :: ws) i ρ = outsE ws (i + 1) ρ) (hl : lots.length ≤ 100)
    (e1 : ∀ l ∈ lots, ∀ o ∈ lots, FN [SW, .dat (rowD l), .dat (rowD o)] = some (.ret (.dat (.bool (Q l o))) [])) (e2 : ∀ l ∈ lots, ∀ o ∈ lots, FD [.dat (.list FL), .dat (rowD l), .dat (rowD o)] = some (.ret (.dat (.bool (Q l o))) []))
    {l : List Int} (hm : l ∈ lots) {T : List D} (hT : T.length ≤ 100) {x y : Option Slot} (hx : Free x) (hy : Free y) : ∃ x' y', Free x' ∧ Free y' ∧
    seqS (nmG 7 (rowD l)) (seqS (asgS false 8 (hrd (lcS (seqI (vS 5)) (nmG 13) yesS (hrd (fCall FN (consS (vS 2) (consS (vS 7) (consS (vS 13) nilS))))) [13])))
  (seqS (ifS (tst (opS gNe (callS (cV reprF) (consS (vS 8) nilS)) (callS (cV reprF) (consS (lcS (seqI (vS 5)) (nmG 13) yesS (hrd (fCall FD (consS (vS 3) (consS (vS 7) (consS (vS 13) nilS))))) [13]) nilS)))) (retS (cS (.bool false))) nxS)
  (exprS (methS ownLst appF (vS 6) (consS (vS 8) nilS))))) [x0, x1, some (.val SW), some (.val (.dat (.list FL))), x4, some (.val (.dat (.list (lots.map rowD)))), some (.own (.lst T)), x, y, none, none, none, none, none, none, none, none] =
    some (.nx [x0, x1, some (.val SW), some (.val (.dat (.list FL))), x4, some (.val (.dat (.list (lots.map rowD)))), some (.own (.lst (T ++ [.list ((lots.map (Q l)).map PyData.bool)]))), x', y', none, none, none, none, none, none, none, none]) := by
  have c1 := lc_nm (i := 13) (s := seqI (vS 5)) (e := hrd (fCall FN (consS (vS 2) (consS (vS 7) (consS (vS 13) nilS))))) (ρ := [x0, x1, some (.val SW), some (.val (.dat (.list FL))), x4, some (.val (.dat (.list (lots.map rowD)))), some (.own (.lst T)), some (.val (.dat (rowD l))), y, none, none, none, none, none, none, none, none]) lots rowD (fun o => .bool (Q l o)) (by simp) rfl free_none (fun o ho => by
    have := e1 l hm o ho
    generalize rowD l = LD at *
    generalize rowD o = OD at *
    simp [this, sd, ss, so]) (by simp [lim]; omega)
  have c2 := lc_nm (i := 13) (s := seqI (vS 5)) (e := hrd (fCall FD (consS (vS 3) (consS (vS 7) (consS (vS 13) nilS))))) (ρ := [x0, x1, some (.val SW), some (.val (.dat (.list FL))), x4, some (.val (.dat (.list (lots.map rowD)))), some (.own (.lst T)), some (.val (.dat (rowD l))), some (.val (.dat (.list ((lots.map (Q l)).map PyData.bool)))), none, none, none, none, none, none, none, none]) lots rowD (fun o => .bool (Q l o)) (by simp) rfl free_none (fun o ho => by
    have := e2 l hm o ho
    generalize (lots.map (Q l)).map PyData.bool = BD at *
    generalize rowD l = LD at *
    generalize rowD o = OD at *
    simp [this, sd, ss, so]) (by simp [lim]; omega)
  rw [map_bool (fun o => Q l o) lots] at c1 c2
  have rp : ∀ w, (w = .dat (.list ((lots.map (Q l)).map PyData.bool)) ∨ w = .fresh (.lst ((lots.map (Q l)).map PyData.bool))) → ∀ ρ, cV reprF [w] ρ = some (.ok (.dat (.str (PyData.list ((lots.map (Q l)).map PyData.bool)).shown)) ρ) := fun w hw ρ => repr_nice (nice_list (w := 0) (p := 0) fun d hd => by
    obtain ⟨z, _, rfl⟩ := List.mem_map.mp hd
    exact nice_bool z) (by simp; omega) (by decide) (by rcases hw with rfl | rfl <;> rfl)
  have rp1 := rp _ (.inl rfl)
  have rp2 := rp _ (.inr rfl)
  have app : ∀ x13, appF (.own 6) [.dat (.list ((lots.map (Q l)).map PyData.bool))] [x0, x1, some (.val SW), some (.val (.dat (.list FL))), x4, some (.val (.dat (.list (lots.map rowD)))), some (.own (.lst T)), some (.val (.dat (rowD l))), some (.val (.dat (.list ((lots.map (Q l)).map PyData.bool)))), none, none, none, none, x13, none, none, none] = some (.ok (.dat .none) [x0, x1, some (.val SW), some (.val (.dat (.list FL))), x4, some (.val (.dat (.list (lots.map rowD)))), some (.own (.lst (T ++ [.list ((lots.map (Q l)).map PyData.bool)]))), some (.val (.dat (rowD l))), some (.val (.dat (.list ((lots.map (Q l)).map PyData.bool)))), none, none, none, none, x13, none, none, none]) := fun x13 => by
    rw [appF_own _ rfl (by simp [lim]; omega)]
    rfl
  refine ⟨_, _, free_val (.dat (rowD l)), free_val (.dat (.list ((lots.map (Q l)).map PyData.bool))), ?_⟩
  generalize (PyData.list ((lots.map (Q l)).map PyData.bool)).shown = ST at *
  generalize (lots.map (Q l)).map PyData.bool = BD at *
  generalize lots.map rowD = LSD at *
  generalize rowD l = LD at *
  simp [hx, hy, c1, c2, rp1, rp2, app]
end
theorem row_loop {S : Int} {ds es : List Nat} {F : List (List Int)} {lots : List (List Int)} {x0 x1 x4 : Option Slot} (hl : lots.length ≤ 50)
    (e1 : ∀ l ∈ lots, ∀ o ∈ lots, f_never_more [storeW' S ds es, .dat (rowD l), .dat (rowD o)] = some (.ret (.dat (.bool (dueB F l o))) [])) (e2 : ∀ l ∈ lots, ∀ o ∈ lots, f__law_due [.dat (.list (F.map rowD)), .dat (rowD l), .dat (rowD o)] = some (.ret (.dat (.bool (dueB F l o))) [])) :
    ∃ y7 y8, forL (nmG 7) B__law_right_1 (lots.map rowD) [x0, x1, some (.val (storeW' S ds es)), some (.val (.dat (.list (F.map rowD)))), x4, some (.val (.dat (.list (lots.map rowD)))), some (.own (.lst [])), none, none, none, none, none, none, none, none, none, none] =
      some (.nx [x0, x1, some (.val (storeW' S ds es)), some (.val (.dat (.list (F.map rowD)))), x4, some (.val (.dat (.list (lots.map rowD)))), some (.own (.lst (lots.map fun l => PyData.list ((lots.map (dueB F l)).map PyData.bool)))), y7, y8, none, none, none, none, none, none, none, none]) := by
  obtain ⟨⟨T, x'⟩, y', ⟨hT, _⟩, _, e⟩ := for_inv (f := nmG 7) (b := B__law_right_1) rowD (fun (z : List D × Option Slot) y => [x0, x1, some (.val (storeW' S ds es)), some (.val (.dat (.list (F.map rowD)))), x4, some (.val (.dat (.list (lots.map rowD)))), some (.own (.lst z.1)), z.2, y, none, none, none, none, none, none, none, none]) (fun k z => z.1 = (lots.take k).map (fun l => PyData.list ((lots.map (dueB F l)).map PyData.bool)) ∧ Free z.2) lots 0 (fun j l hj z y ⟨hT, hx⟩ hy => by
    obtain ⟨T, x⟩ := z
    dsimp only at hT hx
    have hm : l ∈ lots := List.mem_of_getElem? hj
    have lT : T.length ≤ 100 := by
      rw [hT, List.length_map, List.length_take]
      omega
    obtain ⟨x', y', fx, fy, e⟩ := row_step (x0 := x0) (x1 := x1) (x4 := x4) (FL := F.map rowD) (Q := dueB F) (store_dat S ds es) (store_slot S ds es) (store_outs S ds es) (by omega) e1 e2 hm lT hx hy
    refine ⟨(_, x'), y', ⟨?_, fx⟩, fy, .inl e⟩
    dsimp only
    rw [hT, Nat.zero_add, List.take_succ, hj]
    simp) ([], none) none ⟨by simp, free_none⟩ free_none
  dsimp only at e hT
  rw [hT, Nat.zero_add, List.take_length] at e
  exact ⟨_, _, e⟩
/-! ### handed on -/
theorem hand_step {R0 R1 R2 : List D} {x0 x1 x2 x3 x4 x5 x7 x8 x9 x10 x11 : Option Slot} {i j k : Int} {p q r u : Bool} (h9 : Free x9) (h10 : Free x10) (h11 : Free x11) (mj : (i + 1) % 3 = j) (mk : (i + 2) % 3 = k) {Ri Rj Rk : List D}
    (gi : ∀ e9 e10 e11, gIx (.own 6) (.dat (.int i)) [x0, x1, x2, x3, x4, x5, some (.own (.lst [.list R0, .list R1, .list R2])), x7, x8, e9, e10, e11, none, none, none, none, none] = some (.ok (.dat (.list Ri)) [x0, x1, x2, x3, x4, x5, some (.own (.lst [.list R0, .list R1, .list R2])), x7, x8, e9, e10, e11, none, none, none, none, none]))
    (gj : ∀ e9 e10 e11, gIx (.own 6) (.dat (.int j)) [x0, x1, x2, x3, x4, x5, some (.own (.lst [.list R0, .list R1, .list R2])), x7, x8, e9, e10, e11, none, none, none, none, none] = some (.ok (.dat (.list Rj)) [x0, x1, x2, x3, x4, x5, some (.own (.lst [.list R0, .list R1, .list R2])), x7, x8, e9, e10, e11, none, none, none, none, none]))
    (gk : ∀ e9 e10 e11, gIx (.own 6) (.dat (.int k)) [x0, x1, x2, x3, x4, x5, some (.own (.lst [.list R0, .list R1, .list R2])), x7, x8, e9, e10, e11, none, none, none, none, none] = some (.ok (.dat (.list Rk)) [x0, x1, x2, x3, x4, x5, some (.own (.lst [.list R0, .list R1, .list R2])), x7, x8, e9, e10, e11, none, none, none, none, none]))
    (ii : ∀ ρ, gIx (.dat (.list Ri)) (.dat (.int i)) ρ = some (.ok (.dat (.bool true)) ρ)) (ij : ∀ ρ, gIx (.dat (.list Ri)) (.dat (.int j)) ρ = some (.ok (.dat (.bool p)) ρ)) (ik : ∀ ρ, gIx (.dat (.list Ri)) (.dat (.int k)) ρ = some (.ok (.dat (.bool r)) ρ))
    (jk : ∀ ρ, gIx (.dat (.list Rj)) (.dat (.int k)) ρ = some (.ok (.dat (.bool q)) ρ)) (kj : ∀ ρ, gIx (.dat (.list Rk)) (.dat (.int j)) ρ = some (.ok (.dat (.bool u)) ρ))
    (t1 : p = true → q = true → r = true) (t2 : r = true → u = true → p = true) :
    seqS (nmG 9 (.int i)) B__law_right_2 [x0, x1, x2, x3, x4, x5, some (.own (.lst [.list R0, .list R1, .list R2])), x7, x8, x9, x10, x11, none, none, none, none, none] =
      some (.nx [x0, x1, x2, x3, x4, x5, some (.own (.lst [.list R0, .list R1, .list R2])), x7, x8, some (.val (.dat (.int i))), some (.val (.dat (.int j))), some (.val (.dat (.int k))), none, none, none, none, none]) := by
  have m1 : ∀ ρ, gMod (.dat (.int (i + 1))) (.dat (.int 3)) ρ = some (.ok (.dat (.int j)) ρ) := fun ρ => by simp [fm, mj]
  have m2 : ∀ ρ, gMod (.dat (.int (i + 2))) (.dat (.int 3)) ρ = some (.ok (.dat (.int k)) ρ) := fun ρ => by simp [fm, mk]
  cases p <;> cases q <;> cases r <;> cases u <;> first | (exfalso; revert t1; decide) | (exfalso; revert t2; decide) | simp [B__law_right_2, h9, h10, h11, m1, m2, gi, gj, gk, ii, ij, ik, jk, kj, isF]
theorem hand_loop {R0 R1 R2 : List D} {Q : Fin 3 → Fin 3 → Bool} {x0 x1 x2 x3 x4 x5 x7 x8 : Option Slot} (h0 : R0 = [.bool (Q 0 0), .bool (Q 0 1), .bool (Q 0 2)]) (h1 : R1 = [.bool (Q 1 0), .bool (Q 1 1), .bool (Q 1 2)]) (h2 : R2 = [.bool (Q 2 0), .bool (Q 2 1), .bool (Q 2 2)]) (rf : ∀ i, Q i i = true) (tr : ∀ i j k, Q i j = true → Q j k = true → Q i k = true) :
    forL (nmG 9) B__law_right_2 [.int 0, .int 1, .int 2] [x0, x1, x2, x3, x4, x5, some (.own (.lst [.list R0, .list R1, .list R2])), x7, x8, none, none, none, none, none, none, none, none] =
      some (.nx [x0, x1, x2, x3, x4, x5, some (.own (.lst [.list R0, .list R1, .list R2])), x7, x8, some (.val (.dat (.int 2))), some (.val (.dat (.int 0))), some (.val (.dat (.int 1))), none, none, none, none, none]) := by
  have a0 : ∀ e9 e10 e11, gIx (.own 6) (.dat (.int 0)) [x0, x1, x2, x3, x4, x5, some (.own (.lst [.list R0, .list R1, .list R2])), x7, x8, e9, e10, e11, none, none, none, none, none] = some (.ok (.dat (.list R0)) [x0, x1, x2, x3, x4, x5, some (.own (.lst [.list R0, .list R1, .list R2])), x7, x8, e9, e10, e11, none, none, none, none, none]) := fun _ _ _ => rfl
  have a1 : ∀ e9 e10 e11, gIx (.own 6) (.dat (.int 1)) [x0, x1, x2, x3, x4, x5, some (.own (.lst [.list R0, .list R1, .list R2])), x7, x8, e9, e10, e11, none, none, none, none, none] = some (.ok (.dat (.list R1)) [x0, x1, x2, x3, x4, x5, some (.own (.lst [.list R0, .list R1, .list R2])), x7, x8, e9, e10, e11, none, none, none, none, none]) := fun _ _ _ => rfl
  have a2 : ∀ e9 e10 e11, gIx (.own 6) (.dat (.int 2)) [x0, x1, x2, x3, x4, x5, some (.own (.lst [.list R0, .list R1, .list R2])), x7, x8, e9, e10, e11, none, none, none, none, none] = some (.ok (.dat (.list R2)) [x0, x1, x2, x3, x4, x5, some (.own (.lst [.list R0, .list R1, .list R2])), x7, x8, e9, e10, e11, none, none, none, none, none]) := fun _ _ _ => rfl
  have v : ∀ (i : Int) , Free (some (.val (.dat (.int i)))) := fun i => free_val _
  have b0 : ∀ ρ, gIx (.dat (.list R0)) (.dat (.int 0)) ρ = some (.ok (.dat (.bool true)) ρ) := fun ρ => by rw [h0, rf]; rfl
  have b1 : ∀ ρ, gIx (.dat (.list R1)) (.dat (.int 1)) ρ = some (.ok (.dat (.bool true)) ρ) := fun ρ => by rw [h1, rf]; rfl
  have b2 : ∀ ρ, gIx (.dat (.list R2)) (.dat (.int 2)) ρ = some (.ok (.dat (.bool true)) ρ) := fun ρ => by rw [h2, rf]; rfl
  have c01 : ∀ ρ, gIx (.dat (.list R0)) (.dat (.int 1)) ρ = some (.ok (.dat (.bool (Q 0 1))) ρ) := fun ρ => by rw [h0]; rfl
  have c02 : ∀ ρ, gIx (.dat (.list R0)) (.dat (.int 2)) ρ = some (.ok (.dat (.bool (Q 0 2))) ρ) := fun ρ => by rw [h0]; rfl
  have c10 : ∀ ρ, gIx (.dat (.list R1)) (.dat (.int 0)) ρ = some (.ok (.dat (.bool (Q 1 0))) ρ) := fun ρ => by rw [h1]; rfl
  have c12 : ∀ ρ, gIx (.dat (.list R1)) (.dat (.int 2)) ρ = some (.ok (.dat (.bool (Q 1 2))) ρ) := fun ρ => by rw [h1]; rfl
  have c20 : ∀ ρ, gIx (.dat (.list R2)) (.dat (.int 0)) ρ = some (.ok (.dat (.bool (Q 2 0))) ρ) := fun ρ => by rw [h2]; rfl
  have c21 : ∀ ρ, gIx (.dat (.list R2)) (.dat (.int 1)) ρ = some (.ok (.dat (.bool (Q 2 1))) ρ) := fun ρ => by rw [h2]; rfl
  have s0 := hand_step (x0 := x0) (x1 := x1) (x2 := x2) (x3 := x3) (x4 := x4) (x5 := x5) (x7 := x7) (x8 := x8) (i := 0) (j := 1) (k := 2) free_none free_none free_none (by decide) (by decide) a0 a1 a2 b0 c01 c02 c12 c21 (tr 0 1 2) (tr 0 2 1)
  have s1 := hand_step (x0 := x0) (x1 := x1) (x2 := x2) (x3 := x3) (x4 := x4) (x5 := x5) (x7 := x7) (x8 := x8) (i := 1) (j := 2) (k := 0) (v 0) (v 1) (v 2) (by decide) (by decide) a1 a2 a0 b1 c12 c10 c20 c02 (tr 1 2 0) (tr 1 0 2)
  have s2 := hand_step (x0 := x0) (x1 := x1) (x2 := x2) (x3 := x3) (x4 := x4) (x5 := x5) (x7 := x7) (x8 := x8) (i := 2) (j := 0) (k := 1) (v 1) (v 2) (v 0) (by decide) (by decide) a2 a0 a1 b2 c20 c21 c01 c10 (tr 2 0 1) (tr 2 1 0)
  generalize B__law_right_2 = B at *
  unfold forL
  rw [s0]
  dsimp only
  unfold forL
  rw [s1]
  dsimp only
  unfold forL
  rw [s2]
  rfl
end K46

namespace K46
open PySem PySem.Spec L2 Py
section
variable {FDR FWO FST FFL FPL FLO FSB FNM FNT : FS} {B1 B2 : SS} {LC : ES} {a b a1 b1 a2 b2 a3 b3 a4 b4 a5 b5 a6 b6 v u fr S : Int} {WD PD : D} {FD L0 L1 L2 R0 R1 R2 UD SL RD : List D} {ds es : List Nat} {DB DQ : Bool} {sb sq : Str} {y7 y8 y9 y10 y11 : Option Slot}
theorem right_run (e1 : FWO [.fresh (potC a b), .dat (.int 5)] = some (.ret (.dat WD) [potC a1 b1]))
    (e2 : FST [.dat WD] = some (.ret (.fresh (storeC S ds es)) [])) (e3 : FPL [.dat WD] = some (.ret (.dat PD) [])) (e4 : FFL [.dat PD] = some (.ret (.fresh (.lst FD)) []))
    (i0 : ∀ ρ, gIx (.dat WD) (.dat (.int 0)) ρ = some (.ok (.dat (.int S)) ρ))
    (e5 : FLO [.fresh (potC a1 b1), .dat (.int S)] = some (.ret (.fresh (.lst L0)) [potC a2 b2])) (e6 : FLO [.fresh (potC a2 b2), .dat (.int S)] = some (.ret (.fresh (.lst L1)) [potC a3 b3])) (e7 : FLO [.fresh (potC a3 b3), .dat (.int S)] = some (.ret (.fresh (.lst L2)) [potC a4 b4]))
    (l1 : forL (nmG 7) B1 [.list L0, .list L1, .list L2] [some (.ref (potC a4 b4)), some (.val (.dat WD)), some (.val (storeW' S ds es)), some (.val (.dat (.list FD))), some (.val (.dat (.int S))), some (.val (.dat (.list [.list L0, .list L1, .list L2]))), some (.own (.lst [])), none, none, none, none, none, none, none, none, none, none] = some (.nx [some (.ref (potC a4 b4)), some (.val (.dat WD)), some (.val (storeW' S ds es)), some (.val (.dat (.list FD))), some (.val (.dat (.int S))), some (.val (.dat (.list [.list L0, .list L1, .list L2]))), some (.own (.lst [.list R0, .list R1, .list R2])), y7, y8, none, none, none, none, none, none, none, none]))
    (r3 : ∀ ρ, rng1F [.dat (.int 3)] ρ = some (.ok [.int 0, .int 1, .int 2] ρ))
    (l2 : forL (nmG 9) B2 [.int 0, .int 1, .int 2] [some (.ref (potC a4 b4)), some (.val (.dat WD)), some (.val (storeW' S ds es)), some (.val (.dat (.list FD))), some (.val (.dat (.int S))), some (.val (.dat (.list [.list L0, .list L1, .list L2]))), some (.own (.lst [.list R0, .list R1, .list R2])), y7, y8, none, none, none, none, none, none, none, none] = some (.nx [some (.ref (potC a4 b4)), some (.val (.dat WD)), some (.val (storeW' S ds es)), some (.val (.dat (.list FD))), some (.val (.dat (.int S))), some (.val (.dat (.list [.list L0, .list L1, .list L2]))), some (.own (.lst [.list R0, .list R1, .list R2])), y7, y8, y9, y10, y11, none, none, none, none, none]))
    (lc : LC [some (.ref (potC a4 b4)), some (.val (.dat WD)), some (.val (storeW' S ds es)), some (.val (.dat (.list FD))), some (.val (.dat (.int S))), some (.val (.dat (.list [.list L0, .list L1, .list L2]))), some (.own (.lst [.list R0, .list R1, .list R2])), y7, y8, y9, y10, y11, some (.val (.dat (.list L0))), some (.val (.dat (.list L1))), none, none, none] = some (.ok (.fresh (.lst UD)) [some (.ref (potC a4 b4)), some (.val (.dat WD)), some (.val (storeW' S ds es)), some (.val (.dat (.list FD))), some (.val (.dat (.int S))), some (.val (.dat (.list [.list L0, .list L1, .list L2]))), some (.own (.lst [.list R0, .list R1, .list R2])), y7, y8, y9, y10, y11, some (.val (.dat (.list L0))), some (.val (.dat (.list L1))), none, none, none]))
    (e8 : FSB [storeW' S ds es, .dat (.list UD)] = some (.ret (.dat (.bool DB)) []))
    (rb : ∀ ρ, cV reprF [.dat (.bool DB)] ρ = some (.ok (.dat (.str sb)) ρ)) (rq : ∀ ρ, cV reprF [.dat (.bool DQ)] ρ = some (.ok (.dat (.str sq)) ρ))
    (tO : tupleF [.list L1] = some (.tuple L1)) (sL : sortF2 [.list L0] = some SL)
    (e9 : FNM [storeW' S ds es, .dat (.list SL), .dat (.tuple L1)] = some (.ret (.dat (.bool DB)) []))
    (i6 : gIx (.own 6) (.dat (.int 0)) [some (.ref (potC a4 b4)), some (.val (.dat WD)), some (.val (storeW' S ds es)), some (.val (.dat (.list FD))), some (.val (.dat (.int S))), some (.val (.dat (.list [.list L0, .list L1, .list L2]))), some (.own (.lst [.list R0, .list R1, .list R2])), y7, y8, y9, y10, y11, some (.val (.dat (.list L0))), some (.val (.dat (.list L1))), some (.val (.dat (.list UD))), none, none] = some (.ok (.dat (.list R0)) [some (.ref (potC a4 b4)), some (.val (.dat WD)), some (.val (storeW' S ds es)), some (.val (.dat (.list FD))), some (.val (.dat (.int S))), some (.val (.dat (.list [.list L0, .list L1, .list L2]))), some (.own (.lst [.list R0, .list R1, .list R2])), y7, y8, y9, y10, y11, some (.val (.dat (.list L0))), some (.val (.dat (.list L1))), some (.val (.dat (.list UD))), none, none])) (i7 : ∀ ρ, gIx (.dat (.list R0)) (.dat (.int 1)) ρ = some (.ok (.dat (.bool DB)) ρ))
    (j0 : ∀ ρ, gIx (.dat (.list [.list L0, .list L1, .list L2])) (.dat (.int 0)) ρ = some (.ok (.dat (.list L0)) ρ)) (j1 : ∀ ρ, gIx (.dat (.list [.list L0, .list L1, .list L2])) (.dat (.int 1)) ρ = some (.ok (.dat (.list L1)) ρ))
    (e10 : FNM [storeW' S ds es, .dat (.list []), .dat (.list L1)] = some (.ret (.dat (.bool true)) []))
    (rd : ∀ ρ, listR1 (.dat (.int S)) ρ = some (.ok (.fresh (.lst RD)) ρ)) (e11 : FNM [storeW' S ds es, .dat (.list L1), .dat (.list RD)] = some (.ret (.dat (.bool true)) []))
    (e12 : FDR [.fresh (potC a4 b4), .dat (.int S)] = some (.ret (.dat (.int v)) [potC a5 b5])) (e13 : FDR [.fresh (potC a5 b5), .dat (.int (S - 1))] = some (.ret (.dat (.int u)) [potC a6 b6]))
    (gm : ∀ ρ, gMod (.dat (.int (v + 1 + u))) (.dat (.int S)) ρ = some (.ok (.dat (.int fr)) ρ))
    (e14 : FNM [storeW' S ds es, .dat (.list [.int v]), .dat (.list [.int fr])] = some (.ret (.dat (.bool DQ)) [])) (e15 : FNT [storeW' S ds es, .dat (.int v), .dat (.int fr)] = some (.ret (.dat (.bool DQ)) [])) :
    runF 1 17 (seqS (asgS false 1 (hrd (fCall FWO (consS (vS 0) (consS (cS (.int 5)) nilS)))))
  (seqS (parS [(2, false), (3, false), (4, false)] (consS (hrd (fCall FST (consS (vS 1) nilS))) (consS (hrd (fCall FFL (consS (hrd (fCall FPL (consS (vS 1) nilS))) nilS))) (consS (opS gIx (vS 1) (cS (.int 0))) nilS))))
  (seqS (asgS false 5 (hrd (callS lstF (consS (hrd (fCall FLO (consS (vS 0) (consS (vS 4) nilS)))) (consS (hrd (fCall FLO (consS (vS 0) (consS (vS 4) nilS)))) (consS (hrd (fCall FLO (consS (vS 0) (consS (vS 4) nilS)))) nilS))))))
  (seqS (asgS true 6 (callS lstF nilS))
  (seqS (forS (seqI (vS 5)) (nmG 7) B1)
  (seqS (forS (rngI rng1F (consS (cS (.int 3)) nilS)) (nmG 9) B2)
  (seqS (parS [(12, false), (13, false)] (consS (opS gIx (vS 5) (cS (.int 0))) (consS (opS gIx (vS 5) (cS (.int 1))) nilS)))
  (seqS (asgS false 14 (hrd LC))
  (seqS (ifS (orT (tst (opS gNe (callS (cV reprF) (consS (fCall FSB (consS (vS 2) (consS (vS 14) nilS))) nilS)) (callS (cV reprF) (consS (opS gIx (opS gIx (vS 6) (cS (.int 0))) (cS (.int 1))) nilS)))) (tst (opS gNe (callS (cV reprF) (consS (fCallK FNM 0 3 [2, 1, 0] nilS (consS (callS (cD tupleF) (consS (vS 13) nilS)) (consS (hrd (callS (cL sortF2) (consS (vS 12) nilS))) (consS (vS 2) nilS)))) nilS)) (callS (cV reprF) (consS (opS gIx (opS gIx (vS 6) (cS (.int 0))) (cS (.int 1))) nilS))))) (retS (cS (.bool false))) nxS)
  (seqS (ifS (orT (tst (opS (d2 (isF not)) (fCall FNM (consS (vS 2) (consS (hrd (callS lstF nilS)) (consS (vS 13) nilS)))) (cS (.bool true)))) (tst (opS (d2 (isF not)) (fCall FNM (consS (vS 2) (consS (vS 13) (consS (hrd (unS listR1 (vS 4))) nilS)))) (cS (.bool true))))) (retS (cS (.bool false))) nxS)
  (seqS (asgS false 15 (hrd (fCall FDR (consS (vS 0) (consS (vS 4) nilS)))))
  (seqS (asgS false 16 (opS gMod (callS (cD intF) (consS (opS gAdd (opS gAdd (vS 15) (cS (.int 1))) (fCall FDR (consS (vS 0) (consS (opS gSub (vS 4) (cS (.int 1))) nilS)))) nilS)) (vS 4)))
  (retS (opS gEq (callS (cV reprF) (consS (fCall FNM (consS (vS 2) (consS (hrd (callS lstF (consS (vS 15) nilS))) (consS (hrd (callS lstF (consS (vS 16) nilS))) nilS)))) nilS)) (callS (cV reprF) (consS (fCall FNT (consS (vS 2) (consS (vS 15) (consS (vS 16) nilS)))) nilS)))))))))))))))) [.fresh (potC a b)] = some (.ret (.dat (.bool true)) [potC a6 b6]) := by
  have sd := store_dat S ds es
  have ss := store_slot S ds es
  have so := store_outs S ds es
  have sh := store_hard S ds es
  have sf := store_slotF S ds es
  have sc := storeC_hard S ds es
  generalize storeC S ds es = SC at *
  generalize storeW' S ds es = SW at *
  simp [e1, e2, e3, e4, i0, e5, e6, e7, l1, r3, l2, lc, e8, rb, rq, tO, sL, e9, i6, i7, j0, j1, e10, rd, e11, e12, e13, gm, e14, e15, sc, sd, ss, so, sh, sf, lstF, lim, isF, datsW, fCallK, permW]
end
end K46

namespace K46
open PySem PySem.Spec L2 Py
theorem lot_sort {S : Int} {r : List Int} (h : LotOk S r) : LotOk S (sortI r) := ⟨by rw [sortI_nodup h.1]; exact (sortU_lt r).imp fun h => Int.ne_of_lt h, fun n hn => h.2 n (mem_sortI.mp hn)⟩
theorem due_congr {F : List (List Int)} {x y z : List Int} (h : ∀ n, n ∈ x ↔ n ∈ y) : dueB F x z = dueB F y z := by
  unfold dueB
  have : (fun n => decide (n ∈ x)) = fun n => decide (n ∈ y) := funext fun n => decide_eq_decide.mpr (h n)
  rw [this]
theorem below_run {FWS FWW FS1 : FS} {SW : W} {WD WT R : D} (e0 : FWS [SW] = some (.ret SW [])) (sd : isDat SW = true) (sl : argSlot SW = some (.val SW)) (so : ∀ ws i ρ, outsE (SW :: ws) i ρ = outsE ws (i + 1) ρ) (sh : hardW SW = some SW) (sf : slotFor false SW = some (.val SW))
    (ew : FWW [SW, .dat WD] = some (.ret (.dat WT) [])) (es : FS1 [SW, .dat WT] = some (.ret (.dat R) [])) :
    runF 2 3 (seqS (asgS false 2 (hrd (fCall FWS (consS (vS 0) nilS)))) (retS (fCall FS1 (consS (vS 2) (consS (hrd (fCall FWW (consS (vS 2) (consS (vS 1) nilS)))) nilS))))) [SW, .dat WD] = some (.ret (.dat R) []) := by
  simp [e0, sd, sl, so, sh, sf, ew, es]
theorem right {a b : Int} (h : PotOk a b) : ∃ c, f__law_right [.fresh (potC a b)] = some (.ret (.dat (.bool true)) [c]) := by
  obtain ⟨S, rs, ss, a1, b1, e1, h0, h5, k1, l1, k2, l2, p1⟩ := world h
  have h8 : S ≤ 8 := by omega
  have e2 := F_law_store h0 h8 k1 (by omega) k2 (by omega)
  have e3 := F_law_plain (S := S) h8 k1 (by omega) k2 (by omega)
  have t1 : (told rs).length ≤ 8 := Nat.le_trans (told_ok rs).2.2 (by omega)
  have t2 : (told ss).length ≤ 8 := Nat.le_trans (told_ok ss).2.2 (by omega)
  have g1 := told_good k1
  have g2 := told_good k2
  have i0 : ∀ ρ, gIx (.dat (.tuple [.int S, .list (rs.map rowD), .list (ss.map rowD)])) (.dat (.int 0)) ρ = some (.ok (.dat (.int S)) ρ) := fun ρ => rfl
  obtain ⟨l0, a2, b2, e5, o0, p2⟩ := lot p1 h0 h8
  obtain ⟨l1', a3, b3, e6, o1, p3⟩ := lot p2 h0 h8
  obtain ⟨l2', a4, b4, e7, o2, p4⟩ := lot p3 h0 h8
  obtain ⟨v, a5, b5, e12, v0, v1, p5⟩ := draw (m := S) p4 (by omega) (by omega)
  obtain ⟨u, a6, b6, e13, u0, u1, p6⟩ := draw (m := S - 1) p5 (by omega) (by omega)
  obtain ⟨fr, hfr⟩ : ∃ fr, (v + 1 + u) % S = fr := ⟨_, rfl⟩
  have f0 : 0 ≤ fr := by rw [← hfr]; exact Int.emod_nonneg _ (by omega)
  have f1 : fr < S := by rw [← hfr]; exact Int.emod_lt_of_pos _ (by omega)
  have fv : fr ≠ v := fun z => by
    rw [← hfr] at z
    have d := Int.emod_add_mul_ediv (v + 1 + u) S
    rw [z] at d
    generalize (v + 1 + u) / S = q at *
    by_cases q0 : q = 0
    · subst q0; omega
    · by_cases q1 : 1 ≤ q
      · have : S * 1 ≤ S * q := Int.mul_le_mul_of_nonneg_left q1 (by omega)
        omega
      · have : S * q ≤ S * 0 := Int.mul_le_mul_of_nonneg_left (by omega) (by omega)
        omega
  have gm : ∀ ρ, gMod (.dat (.int (v + 1 + u))) (.dat (.int S)) ρ = some (.ok (.dat (.int fr)) ρ) := fun ρ => by
    have : S ≠ 0 := by omega
    have : 0 < S := by omega
    simp [fm, hfr, *]
  -- the flat lots
  obtain ⟨F, eF, cF, gF, qF, lF, _⟩ := F_flats (S := S) h0 h5 g1 g2 t1 t2 (Q := fun l => bitsN l ∈ flatsOf ((told rs).map bitsN) ((told ss).map bitsN) ∧ (namedB (told rs) v = false → v ∉ l) ∧ ((v ∈ l → fr ∈ l) ∨ gives (told rs) v fr ≠ [] ∨ takes (told rs) (told ss) v fr ≠ []))
    (fun l p gl ⟨q1, q3, q2⟩ hp => ⟨flat_step h8 g1 g2 t1 t2 l p gl q1 hp, fun hn => unnamed_step hn l p (q3 hn) hp, by
      by_cases hg : gives (told rs) v fr = []
      · by_cases ht : takes (told rs) (told ss) v fr = []
        · rcases q2 with q2 | q2
          · cases hn : namedB (told rs) v with
            | true => exact .inl (never_step hg ht l p gl q2 hp hn)
            | false => exact .inl fun z => absurd z (unnamed_step hn l p (q3 hn) hp)
          · exact .inr q2
        · exact .inr (.inr ht)
      · exact .inr (.inl hg)⟩)
    ⟨(flats_are (es := (told ss).map bitsN) (bits_256 h8 g1) (by simpa using t1) (by simpa using t2)).2.2.2.1, fun _ z => (by cases z), .inl fun z => (by cases z)⟩
  have iF : ∀ l ∈ F, bitsN l ∈ flatsOf ((told rs).map bitsN) ((told ss).map bitsN) := fun l hl => (qF l hl).1
  have fF : ∀ l ∈ F, (v ∈ l → fr ∈ l) ∨ gives (told rs) v fr ≠ [] ∨ takes (told rs) (told ss) v fr ≠ [] := fun l hl => (qF l hl).2.2
  have nm := fun {lot other : List Int} {w w2 : D} (k1 : LotOk S lot) (k2 : LotOk S other) (hq : isSeq w = true) (hv : seqOf w = lot.map PyData.int) (hq2 : isSeq w2 = true) (hv2 : seqOf w2 = other.map PyData.int) => F_never_more h0 h8 g1 g2 t1 t2 cF gF iF k1 k2 hq hv hq2 hv2
  have ok : ∀ l ∈ [l0, l1', l2'], LotOk S l := fun l hl => by
    simp only [List.mem_cons, List.not_mem_nil, or_false] at hl
    rcases hl with rfl | rfl | rfl
    · exact o0
    · exact o1
    · exact o2
  obtain ⟨y7, y8, L1⟩ := row_loop (S := S) (ds := (told rs).map bitsN) (es := (told ss).map bitsN) (F := F) (lots := [l0, l1', l2']) (x0 := some (.ref (potC a4 b4))) (x1 := some (.val (.dat (.tuple [.int S, .list (rs.map rowD), .list (ss.map rowD)])))) (x4 := some (.val (.dat (.int S)))) (by simp) (fun l hl o ho => nm (ok l hl) (ok o ho) rfl rfl rfl rfl) (fun l hl o ho => F_law_due h8 gF lF)
  have L2 := hand_loop (R0 := ([l0, l1', l2'].map (dueB F l0)).map PyData.bool) (R1 := ([l0, l1', l2'].map (dueB F l1')).map PyData.bool) (R2 := ([l0, l1', l2'].map (dueB F l2')).map PyData.bool) (Q := fun i j => dueB F ([l0, l1', l2'].get i) ([l0, l1', l2'].get j)) (x0 := some (.ref (potC a4 b4))) (x1 := some (.val (.dat (.tuple [.int S, .list (rs.map rowD), .list (ss.map rowD)])))) (x2 := some (.val (storeW' S ((told rs).map bitsN) ((told ss).map bitsN)))) (x3 := some (.val (.dat (.list (F.map rowD))))) (x4 := some (.val (.dat (.int S)))) (x5 := some (.val (.dat (.list ([l0, l1', l2'].map rowD))))) (x7 := y7) (x8 := y8) rfl rfl rfl (fun i => due_refl F _) (fun i j k => due_trans)
  have r3 : ∀ ρ, rng1F [.dat (.int 3)] ρ = some (.ok [.int 0, .int 1, .int 2] ρ) := fun ρ => by rw [rng1_map (by decide) (by decide)]; rfl
  have lc : ∀ (x0 x1 x2 x3 x5 x6 x7 x8 x9 x10 x11 : Option Slot), lcS (rngI rng1F (consS (vS 4) nilS)) (nmG 15) yesS (opS gSub (callS (cD intF) (consS (opS gInT (vS 15) (vS 12)) nilS)) (callS (cD intF) (consS (opS gInT (vS 15) (vS 13)) nilS))) [15] [x0, x1, x2, x3, some (.val (.dat (.int S))), x5, x6, x7, x8, x9, x10, x11, some (.val (.dat (.list (l0.map PyData.int)))), some (.val (.dat (.list (l1'.map PyData.int)))), none, none, none] =
      some (.ok (.fresh (.lst ((unlike S l0 l1').map PyData.int))) [x0, x1, x2, x3, some (.val (.dat (.int S))), x5, x6, x7, x8, x9, x10, x11, some (.val (.dat (.list (l0.map PyData.int)))), some (.val (.dat (.list (l1'.map PyData.int)))), none, none, none]) := fun x0 x1 x2 x3 x5 x6 x7 x8 x9 x10 x11 => by
    have hr := fun ρ => rng1_map (j := S) (ρ := ρ) (by omega) (by omega)
    have e := lc_nm (i := 15) (s := rngI rng1F (consS (vS 4) nilS)) (e := opS gSub (callS (cD intF) (consS (opS gInT (vS 15) (vS 12)) nilS)) (callS (cD intF) (consS (opS gInT (vS 15) (vS 13)) nilS))) (ρ := [x0, x1, x2, x3, some (.val (.dat (.int S))), x5, x6, x7, x8, x9, x10, x11, some (.val (.dat (.list (l0.map PyData.int)))), some (.val (.dat (.list (l1'.map PyData.int)))), none, none, none]) (List.range S.toNat) (fun i : Nat => .int (i : Nat)) (fun i : Nat => .int (mark l0 l1' (i : Nat))) (by simp [hr]) rfl free_none (fun i _ => by simp [intF, mark]) (by simp [lim]; omega)
    rw [map_int (fun i : Nat => mark l0 l1' (i : Nat))] at e
    exact e
  have ew := F_want_weights (ds := (told rs).map bitsN) (es := (told ss).map bitsN) h0 h8 (unlike_ok l0 l1')
  have es := F_stays_of h0 h8 g1 g2 t1 t2 cF gF iF (unlike_ok l0 l1')
  rw [stays_due (by omega) gF] at es
  have e8 := below_run (F_want_store S ((told rs).map bitsN) ((told ss).map bitsN)) (store_dat _ _ _) (store_slot _ _ _) (store_outs _ _ _) (store_hard _ _ _) (store_slotF _ _ _) ew es
  have sL : sortF2 [.list (l0.map PyData.int)] = some ((sortI l0).map PyData.int) := sortF_ints (by have := lot_len o0 h8; simp [lim]; omega)
  have e9 := nm (lot_sort o0) o1 (w := .list ((sortI l0).map PyData.int)) (w2 := .tuple (l1'.map PyData.int)) rfl rfl rfl rfl
  rw [due_congr fun n => mem_sortI] at e9
  have e10 := nm (lot := []) ⟨.nil, fun n z => by cases z⟩ o1 (w := .list []) (w2 := .list (l1'.map PyData.int)) rfl rfl rfl rfl
  rw [due_nil] at e10
  have ofull : LotOk S ((List.range S.toNat).map fun i : Nat => ((i : Nat) : Int)) := ⟨List.Pairwise.map (S := (· ≠ ·)) (fun i : Nat => ((i : Nat) : Int)) (fun a b h e => h (by omega)) List.nodup_range, fun n hn => by
    obtain ⟨i, hi, rfl⟩ := List.mem_map.mp hn
    have := List.mem_range.mp hi
    omega⟩
  have e11 := nm o1 ofull (w := .list (l1'.map PyData.int)) (w2 := .list (((List.range S.toNat).map fun i : Nat => ((i : Nat) : Int)).map PyData.int)) rfl rfl rfl rfl
  rw [due_full _ (by omega) gF] at e11
  have rd : ∀ ρ, listR1 (.dat (.int S)) ρ = some (.ok (.fresh (.lst (((List.range S.toNat).map fun i : Nat => ((i : Nat) : Int)).map PyData.int))) ρ) := fun ρ => by
    have c : rgC 0 S = true := by unfold rgC; simp; omega
    have e : rngD 0 (S - 0).toNat = ((List.range S.toNat).map fun i : Nat => ((i : Nat) : Int)).map PyData.int := by
      simp [rngD, List.map_map, Function.comp_def]
    unfold listR1
    rw [view_dat]
    simp only [c, if_true, e]
  have single : ∀ x : Int, 0 ≤ x → x < S → LotOk S [x] := fun x a b => ⟨by simp, fun n hn => by simp at hn; subst hn; exact ⟨a, b⟩⟩
  have e14 := nm (single v v0 v1) (single fr f0 f1) (w := .list [.int v]) (w2 := .list [.int fr]) rfl rfl rfl rfl
  rw [due_single (S := S) cF gF fF] at e14
  have e15 := F_never (S := S) h8 g1 g2 t1 t2 v0 v1 f0 f1 fv
  exact ⟨_, right_run e1 e2 e3 eF i0 e5 e6 e7 L1 r3 L2 (lc _ _ _ _ _ _ _ _ _ _ _) e8 (repr_b _) (repr_b _) rfl sL e9 rfl (fun ρ => rfl) (fun ρ => rfl) (fun ρ => rfl) e10 rd e11 e12 e13 gm e14 e15⟩
theorem law_run {FR' FP : FS} {ns : List Int} {a b : Int} (e1 : FP [.scr (.sc ns), .dat (.int 0)] = some (.ret (.fresh (potC a b)) [])) (r1 : ∀ ρ, runCall FR' [.fresh (potC a b)] ρ = some (.ok (.dat (.bool true)) ρ)) :
    runF 1 1 (retS (fCall FR' (consS (fCall FP (consS (vS 0) (consS (cS (.int 0)) nilS))) nilS))) [.scr (.sc ns)] = some (.ret (.dat (.bool true)) []) := by
  simp [e1, r1]
theorem law_true (ns : List Int) (_ : ns.length ≤ 63) (_ : ∀ z ∈ ns, Builtin.Int.intBits z ≤ 1048576) : f_law [.scr (.sc ns)] = some (.ret (.dat (.bool true)) []) := by
  obtain ⟨a, b, e1, h1⟩ := pot ns
  obtain ⟨c1, e3⟩ := right h1
  have r1 : ∀ ρ, runCall f__law_right [.fresh (potC a b)] ρ = some (.ok (.dat (.bool true)) ρ) := fun ρ => by
    rw [runN_at (by rfl), e3]
    rfl
  exact law_run e1 r1
end K46

namespace K46
open PySem PySem.Spec PyProof.Rows L2 Py
theorem all_mk {l : PySem.W.OpenLaw} {w : World} {K : PySem.W.Frag} {h : Heap} {mg : Str → Option Value} {fa C0 f0 f1 f2 f3 f4 f5 f6 f7 f8 f9 f10 f11 f12 f13 f14 f15 f16 f17 f18 f19 f20 f21 f22 f23 f24 f25 f26 f27 f28 f29 f30 f31 f32 f33 f34 f35 f36 f37 f38 f39 f40 f41 f42 f43 f44 f45 f46 f47 f48 : Addr} {tLEAST_SHELVES tMOST_KINDS tMOST_SHELVES : Tok} (X : K.In h) (G : h.Ns mainGlobals mg) (hfa : mg "law" = some (.ref fa)) {oc0 kV0 dc0 pm0 cd0 ct0 : Value} {od0 an0 : Option Addr} {sl0 : Array (Option Value)} {oc1 kV1 dc1 pm1 cd1 ct1 : Value} {od1 an1 : Option Addr} {sl1 : Array (Option Value)} {oc2 kV2 dc2 pm2 cd2 ct2 : Value} {od2 an2 : Option Addr} {sl2 : Array (Option Value)} {oc3 kV3 dc3 pm3 cd3 ct3 : Value} {od3 an3 : Option Addr} {sl3 : Array (Option Value)} {oc4 kV4 dc4 pm4 cd4 ct4 : Value} {od4 an4 : Option Addr} {sl4 : Array (Option Value)} {oc5 kV5 dc5 pm5 cd5 ct5 : Value} {od5 an5 : Option Addr} {sl5 : Array (Option Value)} {oc6 kV6 dc6 pm6 cd6 ct6 : Value} {od6 an6 : Option Addr} {sl6 : Array (Option Value)} {oc7 kV7 dc7 pm7 cd7 ct7 : Value} {od7 an7 : Option Addr} {sl7 : Array (Option Value)} {oc8 kV8 dc8 pm8 cd8 ct8 : Value} {od8 an8 : Option Addr} {sl8 : Array (Option Value)} {oc9 kV9 dc9 pm9 cd9 ct9 : Value} {od9 an9 : Option Addr} {sl9 : Array (Option Value)} {oc10 kV10 dc10 pm10 cd10 ct10 : Value} {od10 an10 : Option Addr} {sl10 : Array (Option Value)} {oc11 kV11 dc11 pm11 cd11 ct11 : Value} {od11 an11 : Option Addr} {sl11 : Array (Option Value)} {oc12 kV12 dc12 pm12 cd12 ct12 : Value} {od12 an12 : Option Addr} {sl12 : Array (Option Value)} {oc13 kV13 dc13 pm13 cd13 ct13 : Value} {od13 an13 : Option Addr} {sl13 : Array (Option Value)} {oc14 kV14 dc14 pm14 cd14 ct14 : Value} {od14 an14 : Option Addr} {sl14 : Array (Option Value)} {oc15 kV15 dc15 pm15 cd15 ct15 : Value} {od15 an15 : Option Addr} {sl15 : Array (Option Value)} {oc16 kV16 dc16 pm16 cd16 ct16 : Value} {od16 an16 : Option Addr} {sl16 : Array (Option Value)} {oc17 kV17 dc17 pm17 cd17 ct17 : Value} {od17 an17 : Option Addr} {sl17 : Array (Option Value)} {oc18 kV18 dc18 pm18 cd18 ct18 : Value} {od18 an18 : Option Addr} {sl18 : Array (Option Value)} {oc19 kV19 dc19 pm19 cd19 ct19 : Value} {od19 an19 : Option Addr} {sl19 : Array (Option Value)} {oc20 kV20 dc20 pm20 cd20 ct20 : Value} {od20 an20 : Option Addr} {sl20 : Array (Option Value)} {oc21 kV21 dc21 pm21 cd21 ct21 : Value} {od21 an21 : Option Addr} {sl21 : Array (Option Value)} {oc22 kV22 dc22 pm22 cd22 ct22 : Value} {od22 an22 : Option Addr} {sl22 : Array (Option Value)} {oc23 kV23 dc23 pm23 cd23 ct23 : Value} {od23 an23 : Option Addr} {sl23 : Array (Option Value)} {oc24 kV24 dc24 pm24 cd24 ct24 : Value} {od24 an24 : Option Addr} {sl24 : Array (Option Value)} {oc25 kV25 dc25 pm25 cd25 ct25 : Value} {od25 an25 : Option Addr} {sl25 : Array (Option Value)} {oc26 kV26 dc26 pm26 cd26 ct26 : Value} {od26 an26 : Option Addr} {sl26 : Array (Option Value)} {oc27 kV27 dc27 pm27 cd27 ct27 : Value} {od27 an27 : Option Addr} {sl27 : Array (Option Value)} {oc28 kV28 dc28 pm28 cd28 ct28 : Value} {od28 an28 : Option Addr} {sl28 : Array (Option Value)} {oc29 kV29 dc29 pm29 cd29 ct29 : Value} {od29 an29 : Option Addr} {sl29 : Array (Option Value)} {oc30 kV30 dc30 pm30 cd30 ct30 : Value} {od30 an30 : Option Addr} {sl30 : Array (Option Value)} {oc31 kV31 dc31 pm31 cd31 ct31 : Value} {od31 an31 : Option Addr} {sl31 : Array (Option Value)} {oc32 kV32 dc32 pm32 cd32 ct32 : Value} {od32 an32 : Option Addr} {sl32 : Array (Option Value)} {oc33 kV33 dc33 pm33 cd33 ct33 : Value} {od33 an33 : Option Addr} {sl33 : Array (Option Value)} {oc34 kV34 dc34 pm34 cd34 ct34 : Value} {od34 an34 : Option Addr} {sl34 : Array (Option Value)} {oc35 kV35 dc35 pm35 cd35 ct35 : Value} {od35 an35 : Option Addr} {sl35 : Array (Option Value)} {oc36 kV36 dc36 pm36 cd36 ct36 : Value} {od36 an36 : Option Addr} {sl36 : Array (Option Value)} {oc37 kV37 dc37 pm37 cd37 ct37 : Value} {od37 an37 : Option Addr} {sl37 : Array (Option Value)} {oc38 kV38 dc38 pm38 cd38 ct38 : Value} {od38 an38 : Option Addr} {sl38 : Array (Option Value)} {oc39 kV39 dc39 pm39 cd39 ct39 : Value} {od39 an39 : Option Addr} {sl39 : Array (Option Value)} {oc40 kV40 dc40 pm40 cd40 ct40 : Value} {od40 an40 : Option Addr} {sl40 : Array (Option Value)} {oc41 kV41 dc41 pm41 cd41 ct41 : Value} {od41 an41 : Option Addr} {sl41 : Array (Option Value)} {oc42 kV42 dc42 pm42 cd42 ct42 : Value} {od42 an42 : Option Addr} {sl42 : Array (Option Value)} {oc43 kV43 dc43 pm43 cd43 ct43 : Value} {od43 an43 : Option Addr} {sl43 : Array (Option Value)} {oc44 kV44 dc44 pm44 cd44 ct44 : Value} {od44 an44 : Option Addr} {sl44 : Array (Option Value)} {oc45 kV45 dc45 pm45 cd45 ct45 : Value} {od45 an45 : Option Addr} {sl45 : Array (Option Value)} {oc46 kV46 dc46 pm46 cd46 ct46 : Value} {od46 an46 : Option Addr} {sl46 : Array (Option Value)} {oc47 kV47 dc47 pm47 cd47 ct47 : Value} {od47 an47 : Option Addr} {sl47 : Array (Option Value)} {oc48 kV48 dc48 pm48 cd48 ct48 : Value} {od48 an48 : Option Addr} {sl48 : Array (Option Value)}
    (aC0 : PySem.W.nsIn K mainGlobals "Store" = some (some (.ref C0)))
    (a0 : PySem.W.nsIn K mainGlobals "_law_draw" = some (some (.ref f0)))
    (l0 : K.lookup f0 = some ⟨oc0, od0, .func (PySem.W.fnOf "_law_draw" "_law_draw" (defArgs s__law_draw) (defBody s__law_draw) (defScope s__law_draw) .none kV0 dc0 pm0 an0 cd0 ct0), sl0⟩)
    (c0 : PySem.W.codeIn K cd0 "_law_draw" = true)
    (k0 : PySem.W.keepIn K (.ref f0) = true)
    (a1 : PySem.W.nsIn K mainGlobals "_law_kind" = some (some (.ref f1)))
    (l1 : K.lookup f1 = some ⟨oc1, od1, .func (PySem.W.fnOf "_law_kind" "_law_kind" (defArgs s__law_kind) (defBody s__law_kind) (defScope s__law_kind) .none kV1 dc1 pm1 an1 cd1 ct1), sl1⟩)
    (c1 : PySem.W.codeIn K cd1 "_law_kind" = true)
    (k1 : PySem.W.keepIn K (.ref f1) = true)
    (a2 : PySem.W.nsIn K mainGlobals "_law_world" = some (some (.ref f2)))
    (l2 : K.lookup f2 = some ⟨oc2, od2, .func (PySem.W.fnOf "_law_world" "_law_world" (defArgs s__law_world) (defBody s__law_world) (defScope s__law_world) .none kV2 dc2 pm2 an2 cd2 ct2), sl2⟩)
    (c2 : PySem.W.codeIn K cd2 "_law_world" = true)
    (k2 : PySem.W.keepIn K (.ref f2) = true)
    (a3 : PySem.W.nsIn K mainGlobals "is_integer" = some (some (.ref f3)))
    (l3 : K.lookup f3 = some ⟨oc3, od3, .func (PySem.W.fnOf "is_integer" "is_integer" (defArgs s_is_integer) (defBody s_is_integer) (defScope s_is_integer) .none kV3 dc3 pm3 an3 cd3 ct3), sl3⟩)
    (c3 : PySem.W.codeIn K cd3 "is_integer" = true)
    (k3 : PySem.W.keepIn K (.ref f3) = true)
    (a4 : PySem.W.nsIn K mainGlobals "is_count" = some (some (.ref f4)))
    (l4 : K.lookup f4 = some ⟨oc4, od4, .func (PySem.W.fnOf "is_count" "is_count" (defArgs s_is_count) (defBody s_is_count) (defScope s_is_count) .none kV4 dc4 pm4 an4 cd4 ct4), sl4⟩)
    (c4 : PySem.W.codeIn K cd4 "is_count" = true)
    (k4 : PySem.W.keepIn K (.ref f4) = true)
    (a5 : PySem.W.nsIn K mainGlobals "are_shelves" = some (some (.ref f5)))
    (l5 : K.lookup f5 = some ⟨oc5, od5, .func (PySem.W.fnOf "are_shelves" "are_shelves" (defArgs s_are_shelves) (defBody s_are_shelves) (defScope s_are_shelves) .none kV5 dc5 pm5 an5 cd5 ct5), sl5⟩)
    (c5 : PySem.W.codeIn K cd5 "are_shelves" = true)
    (k5 : PySem.W.keepIn K (.ref f5) = true)
    (a6 : PySem.W.nsIn K mainGlobals "want_shelves" = some (some (.ref f6)))
    (l6 : K.lookup f6 = some ⟨oc6, od6, .func (PySem.W.fnOf "want_shelves" "want_shelves" (defArgs s_want_shelves) (defBody s_want_shelves) (defScope s_want_shelves) .none kV6 dc6 pm6 an6 cd6 ct6), sl6⟩)
    (c6 : PySem.W.codeIn K cd6 "want_shelves" = true)
    (k6 : PySem.W.keepIn K (.ref f6) = true)
    (a7 : PySem.W.nsIn K mainGlobals "bits_of" = some (some (.ref f7)))
    (l7 : K.lookup f7 = some ⟨oc7, od7, .func (PySem.W.fnOf "bits_of" "bits_of" (defArgs s_bits_of) (defBody s_bits_of) (defScope s_bits_of) .none kV7 dc7 pm7 an7 cd7 ct7), sl7⟩)
    (c7 : PySem.W.codeIn K cd7 "bits_of" = true)
    (k7 : PySem.W.keepIn K (.ref f7) = true)
    (a8 : PySem.W.nsIn K mainGlobals "spots_of" = some (some (.ref f8)))
    (l8 : K.lookup f8 = some ⟨oc8, od8, .func (PySem.W.fnOf "spots_of" "spots_of" (defArgs s_spots_of) (defBody s_spots_of) (defScope s_spots_of) .none kV8 dc8 pm8 an8 cd8 ct8), sl8⟩)
    (c8 : PySem.W.codeIn K cd8 "spots_of" = true)
    (k8 : PySem.W.keepIn K (.ref f8) = true)
    (a9 : PySem.W.nsIn K mainGlobals "told_lot" = some (some (.ref f9)))
    (l9 : K.lookup f9 = some ⟨oc9, od9, .func (PySem.W.fnOf "told_lot" "told_lot" (defArgs s_told_lot) (defBody s_told_lot) (defScope s_told_lot) .none kV9 dc9 pm9 an9 cd9 ct9), sl9⟩)
    (c9 : PySem.W.codeIn K cd9 "told_lot" = true)
    (k9 : PySem.W.keepIn K (.ref f9) = true)
    (a10 : PySem.W.nsIn K mainGlobals "plain_kinds" = some (some (.ref f10)))
    (l10 : K.lookup f10 = some ⟨oc10, od10, .func (PySem.W.fnOf "plain_kinds" "plain_kinds" (defArgs s_plain_kinds) (defBody s_plain_kinds) (defScope s_plain_kinds) .none kV10 dc10 pm10 an10 cd10 ct10), sl10⟩)
    (c10 : PySem.W.codeIn K cd10 "plain_kinds" = true)
    (k10 : PySem.W.keepIn K (.ref f10) = true)
    (a11 : PySem.W.nsIn K mainGlobals "is_list" = some (some (.ref f11)))
    (l11 : K.lookup f11 = some ⟨oc11, od11, .func (PySem.W.fnOf "is_list" "is_list" (defArgs s_is_list) (defBody s_is_list) (defScope s_is_list) .none kV11 dc11 pm11 an11 cd11 ct11), sl11⟩)
    (c11 : PySem.W.codeIn K cd11 "is_list" = true)
    (k11 : PySem.W.keepIn K (.ref f11) = true)
    (a12 : PySem.W.nsIn K mainGlobals "is_lot_of" = some (some (.ref f12)))
    (l12 : K.lookup f12 = some ⟨oc12, od12, .func (PySem.W.fnOf "is_lot_of" "is_lot_of" (defArgs s_is_lot_of) (defBody s_is_lot_of) (defScope s_is_lot_of) .none kV12 dc12 pm12 an12 cd12 ct12), sl12⟩)
    (c12 : PySem.W.codeIn K cd12 "is_lot_of" = true)
    (k12 : PySem.W.keepIn K (.ref f12) = true)
    (a13 : PySem.W.nsIn K mainGlobals "is_kind" = some (some (.ref f13)))
    (l13 : K.lookup f13 = some ⟨oc13, od13, .func (PySem.W.fnOf "is_kind" "is_kind" (defArgs s_is_kind) (defBody s_is_kind) (defScope s_is_kind) .none kV13 dc13 pm13 an13 cd13 ct13), sl13⟩)
    (c13 : PySem.W.codeIn K cd13 "is_kind" = true)
    (k13 : PySem.W.keepIn K (.ref f13) = true)
    (a14 : PySem.W.nsIn K mainGlobals "are_kinds" = some (some (.ref f14)))
    (l14 : K.lookup f14 = some ⟨oc14, od14, .func (PySem.W.fnOf "are_kinds" "are_kinds" (defArgs s_are_kinds) (defBody s_are_kinds) (defScope s_are_kinds) .none kV14 dc14 pm14 an14 cd14 ct14), sl14⟩)
    (c14 : PySem.W.codeIn K cd14 "are_kinds" = true)
    (k14 : PySem.W.keepIn K (.ref f14) = true)
    (a15 : PySem.W.findIn K (.ref C0) "__init__" = some (some (.ref f15)))
    (i15 : PySem.W.isFn K (.ref f15) = true)
    (l15 : K.lookup f15 = some ⟨oc15, od15, .func (PySem.W.fnOf "__init__" "Store.__init__" (defArgs s_Store_init) (defBody s_Store_init) (defScope s_Store_init) .none kV15 dc15 pm15 an15 cd15 ct15), sl15⟩)
    (c15 : PySem.W.codeIn K cd15 "Store.__init__" = true)
    (k15 : PySem.W.keepIn K (.ref f15) = true)
    (a16 : PySem.W.nsIn K mainGlobals "_law_store" = some (some (.ref f16)))
    (l16 : K.lookup f16 = some ⟨oc16, od16, .func (PySem.W.fnOf "_law_store" "_law_store" (defArgs s__law_store) (defBody s__law_store) (defScope s__law_store) .none kV16 dc16 pm16 an16 cd16 ct16), sl16⟩)
    (c16 : PySem.W.codeIn K cd16 "_law_store" = true)
    (k16 : PySem.W.keepIn K (.ref f16) = true)
    (a17 : PySem.W.nsIn K mainGlobals "_law_steps" = some (some (.ref f17)))
    (l17 : K.lookup f17 = some ⟨oc17, od17, .func (PySem.W.fnOf "_law_steps" "_law_steps" (defArgs s__law_steps) (defBody s__law_steps) (defScope s__law_steps) .none kV17 dc17 pm17 an17 cd17 ct17), sl17⟩)
    (c17 : PySem.W.codeIn K cd17 "_law_steps" = true)
    (k17 : PySem.W.keepIn K (.ref f17) = true)
    (a18 : PySem.W.nsIn K mainGlobals "_law_led" = some (some (.ref f18)))
    (l18 : K.lookup f18 = some ⟨oc18, od18, .func (PySem.W.fnOf "_law_led" "_law_led" (defArgs s__law_led) (defBody s__law_led) (defScope s__law_led) .none kV18 dc18 pm18 an18 cd18 ct18), sl18⟩)
    (c18 : PySem.W.codeIn K cd18 "_law_led" = true)
    (k18 : PySem.W.keepIn K (.ref f18) = true)
    (a19 : PySem.W.nsIn K mainGlobals "_law_flats" = some (some (.ref f19)))
    (l19 : K.lookup f19 = some ⟨oc19, od19, .func (PySem.W.fnOf "_law_flats" "_law_flats" (defArgs s__law_flats) (defBody s__law_flats) (defScope s__law_flats) .none kV19 dc19 pm19 an19 cd19 ct19), sl19⟩)
    (c19 : PySem.W.codeIn K cd19 "_law_flats" = true)
    (k19 : PySem.W.keepIn K (.ref f19) = true)
    (a20 : PySem.W.nsIn K mainGlobals "_law_order" = some (some (.ref f20)))
    (l20 : K.lookup f20 = some ⟨oc20, od20, .func (PySem.W.fnOf "_law_order" "_law_order" (defArgs s__law_order) (defBody s__law_order) (defScope s__law_order) .none kV20 dc20 pm20 an20 cd20 ct20), sl20⟩)
    (c20 : PySem.W.codeIn K cd20 "_law_order" = true)
    (k20 : PySem.W.keepIn K (.ref f20) = true)
    (a21 : PySem.W.nsIn K mainGlobals "_law_lot" = some (some (.ref f21)))
    (l21 : K.lookup f21 = some ⟨oc21, od21, .func (PySem.W.fnOf "_law_lot" "_law_lot" (defArgs s__law_lot) (defBody s__law_lot) (defScope s__law_lot) .none kV21 dc21 pm21 an21 cd21 ct21), sl21⟩)
    (c21 : PySem.W.codeIn K cd21 "_law_lot" = true)
    (k21 : PySem.W.keepIn K (.ref f21) = true)
    (a22 : PySem.W.nsIn K mainGlobals "_law_told" = some (some (.ref f22)))
    (l22 : K.lookup f22 = some ⟨oc22, od22, .func (PySem.W.fnOf "_law_told" "_law_told" (defArgs s__law_told) (defBody s__law_told) (defScope s__law_told) .none kV22 dc22 pm22 an22 cd22 ct22), sl22⟩)
    (c22 : PySem.W.codeIn K cd22 "_law_told" = true)
    (k22 : PySem.W.keepIn K (.ref f22) = true)
    (a23 : PySem.W.nsIn K mainGlobals "_law_plain" = some (some (.ref f23)))
    (l23 : K.lookup f23 = some ⟨oc23, od23, .func (PySem.W.fnOf "_law_plain" "_law_plain" (defArgs s__law_plain) (defBody s__law_plain) (defScope s__law_plain) .none kV23 dc23 pm23 an23 cd23 ct23), sl23⟩)
    (c23 : PySem.W.codeIn K cd23 "_law_plain" = true)
    (k23 : PySem.W.keepIn K (.ref f23) = true)
    (a24 : PySem.W.nsIn K mainGlobals "want_store" = some (some (.ref f24)))
    (l24 : K.lookup f24 = some ⟨oc24, od24, .func (PySem.W.fnOf "want_store" "want_store" (defArgs s_want_store) (defBody s_want_store) (defScope s_want_store) .none kV24 dc24 pm24 an24 cd24 ct24), sl24⟩)
    (c24 : PySem.W.codeIn K cd24 "want_store" = true)
    (k24 : PySem.W.keepIn K (.ref f24) = true)
    (a25 : PySem.W.nsIn K mainGlobals "want_lot" = some (some (.ref f25)))
    (l25 : K.lookup f25 = some ⟨oc25, od25, .func (PySem.W.fnOf "want_lot" "want_lot" (defArgs s_want_lot) (defBody s_want_lot) (defScope s_want_lot) .none kV25 dc25 pm25 an25 cd25 ct25), sl25⟩)
    (c25 : PySem.W.codeIn K cd25 "want_lot" = true)
    (k25 : PySem.W.keepIn K (.ref f25) = true)
    (a26 : PySem.W.nsIn K mainGlobals "want_lot_of" = some (some (.ref f26)))
    (l26 : K.lookup f26 = some ⟨oc26, od26, .func (PySem.W.fnOf "want_lot_of" "want_lot_of" (defArgs s_want_lot_of) (defBody s_want_lot_of) (defScope s_want_lot_of) .none kV26 dc26 pm26 an26 cd26 ct26), sl26⟩)
    (c26 : PySem.W.codeIn K cd26 "want_lot_of" = true)
    (k26 : PySem.W.keepIn K (.ref f26) = true)
    (a27 : PySem.W.nsIn K mainGlobals "led_on" = some (some (.ref f27)))
    (l27 : K.lookup f27 = some ⟨oc27, od27, .func (PySem.W.fnOf "led_on" "led_on" (defArgs s_led_on) (defBody s_led_on) (defScope s_led_on) .none kV27 dc27 pm27 an27 cd27 ct27), sl27⟩)
    (c27 : PySem.W.codeIn K cd27 "led_on" = true)
    (k27 : PySem.W.keepIn K (.ref f27) = true)
    (a28 : PySem.W.nsIn K mainGlobals "closed_from" = some (some (.ref f28)))
    (l28 : K.lookup f28 = some ⟨oc28, od28, .func (PySem.W.fnOf "closed_from" "closed_from" (defArgs s_closed_from) (defBody s_closed_from) (defScope s_closed_from) .none kV28 dc28 pm28 an28 cd28 ct28), sl28⟩)
    (c28 : PySem.W.codeIn K cd28 "closed_from" = true)
    (k28 : PySem.W.keepIn K (.ref f28) = true)
    (a29 : PySem.W.nsIn K mainGlobals "flat_bits" = some (some (.ref f29)))
    (l29 : K.lookup f29 = some ⟨oc29, od29, .func (PySem.W.fnOf "flat_bits" "flat_bits" (defArgs s_flat_bits) (defBody s_flat_bits) (defScope s_flat_bits) .none kV29 dc29 pm29 an29 cd29 ct29), sl29⟩)
    (c29 : PySem.W.codeIn K cd29 "flat_bits" = true)
    (k29 : PySem.W.keepIn K (.ref f29) = true)
    (a30 : PySem.W.nsIn K mainGlobals "weight_of" = some (some (.ref f30)))
    (l30 : K.lookup f30 = some ⟨oc30, od30, .func (PySem.W.fnOf "weight_of" "weight_of" (defArgs s_weight_of) (defBody s_weight_of) (defScope s_weight_of) .none kV30 dc30 pm30 an30 cd30 ct30), sl30⟩)
    (c30 : PySem.W.codeIn K cd30 "weight_of" = true)
    (k30 : PySem.W.keepIn K (.ref f30) = true)
    (a31 : PySem.W.nsIn K mainGlobals "rising_bits" = some (some (.ref f31)))
    (l31 : K.lookup f31 = some ⟨oc31, od31, .func (PySem.W.fnOf "rising_bits" "rising_bits" (defArgs s_rising_bits) (defBody s_rising_bits) (defScope s_rising_bits) .none kV31 dc31 pm31 an31 cd31 ct31), sl31⟩)
    (c31 : PySem.W.codeIn K cd31 "rising_bits" = true)
    (k31 : PySem.W.keepIn K (.ref f31) = true)
    (a32 : PySem.W.nsIn K mainGlobals "stays_of" = some (some (.ref f32)))
    (l32 : K.lookup f32 = some ⟨oc32, od32, .func (PySem.W.fnOf "stays_of" "stays_of" (defArgs s_stays_of) (defBody s_stays_of) (defScope s_stays_of) .none kV32 dc32 pm32 an32 cd32 ct32), sl32⟩)
    (c32 : PySem.W.codeIn K cd32 "stays_of" = true)
    (k32 : PySem.W.keepIn K (.ref f32) = true)
    (a33 : PySem.W.nsIn K mainGlobals "unlike_weights" = some (some (.ref f33)))
    (l33 : K.lookup f33 = some ⟨oc33, od33, .func (PySem.W.fnOf "unlike_weights" "unlike_weights" (defArgs s_unlike_weights) (defBody s_unlike_weights) (defScope s_unlike_weights) .none kV33 dc33 pm33 an33 cd33 ct33), sl33⟩)
    (c33 : PySem.W.codeIn K cd33 "unlike_weights" = true)
    (k33 : PySem.W.keepIn K (.ref f33) = true)
    (a34 : PySem.W.nsIn K mainGlobals "never_more" = some (some (.ref f34)))
    (l34 : K.lookup f34 = some ⟨oc34, od34, .func (PySem.W.fnOf "never_more" "never_more" (defArgs s_never_more) (defBody s_never_more) (defScope s_never_more) .none kV34 dc34 pm34 an34 cd34 ct34), sl34⟩)
    (c34 : PySem.W.codeIn K cd34 "never_more" = true)
    (k34 : PySem.W.keepIn K (.ref f34) = true)
    (a35 : PySem.W.nsIn K mainGlobals "want_shelf" = some (some (.ref f35)))
    (l35 : K.lookup f35 = some ⟨oc35, od35, .func (PySem.W.fnOf "want_shelf" "want_shelf" (defArgs s_want_shelf) (defBody s_want_shelf) (defScope s_want_shelf) .none kV35 dc35 pm35 an35 cd35 ct35), sl35⟩)
    (c35 : PySem.W.codeIn K cd35 "want_shelf" = true)
    (k35 : PySem.W.keepIn K (.ref f35) = true)
    (a36 : PySem.W.nsIn K mainGlobals "want_other_shelf" = some (some (.ref f36)))
    (l36 : K.lookup f36 = some ⟨oc36, od36, .func (PySem.W.fnOf "want_other_shelf" "want_other_shelf" (defArgs s_want_other_shelf) (defBody s_want_other_shelf) (defScope s_want_other_shelf) .none kV36 dc36 pm36 an36 cd36 ct36), sl36⟩)
    (c36 : PySem.W.codeIn K cd36 "want_other_shelf" = true)
    (k36 : PySem.W.keepIn K (.ref f36) = true)
    (a37 : PySem.W.nsIn K mainGlobals "holds" = some (some (.ref f37)))
    (l37 : K.lookup f37 = some ⟨oc37, od37, .func (PySem.W.fnOf "holds" "holds" (defArgs s_holds) (defBody s_holds) (defScope s_holds) .none kV37 dc37 pm37 an37 cd37 ct37), sl37⟩)
    (c37 : PySem.W.codeIn K cd37 "holds" = true)
    (k37 : PySem.W.keepIn K (.ref f37) = true)
    (a38 : PySem.W.nsIn K mainGlobals "is_named" = some (some (.ref f38)))
    (l38 : K.lookup f38 = some ⟨oc38, od38, .func (PySem.W.fnOf "is_named" "is_named" (defArgs s_is_named) (defBody s_is_named) (defScope s_is_named) .none kV38 dc38 pm38 an38 cd38 ct38), sl38⟩)
    (c38 : PySem.W.codeIn K cd38 "is_named" = true)
    (k38 : PySem.W.keepIn K (.ref f38) = true)
    (a39 : PySem.W.nsIn K mainGlobals "positions_with" = some (some (.ref f39)))
    (l39 : K.lookup f39 = some ⟨oc39, od39, .func (PySem.W.fnOf "positions_with" "positions_with" (defArgs s_positions_with) (defBody s_positions_with) (defScope s_positions_with) .none kV39 dc39 pm39 an39 cd39 ct39), sl39⟩)
    (c39 : PySem.W.codeIn K cd39 "positions_with" = true)
    (k39 : PySem.W.keepIn K (.ref f39) = true)
    (a40 : PySem.W.nsIn K mainGlobals "blame_of" = some (some (.ref f40)))
    (l40 : K.lookup f40 = some ⟨oc40, od40, .func (PySem.W.fnOf "blame_of" "blame_of" (defArgs s_blame_of) (defBody s_blame_of) (defScope s_blame_of) .none kV40 dc40 pm40 an40 cd40 ct40), sl40⟩)
    (c40 : PySem.W.codeIn K cd40 "blame_of" = true)
    (k40 : PySem.W.keepIn K (.ref f40) = true)
    (a41 : PySem.W.nsIn K mainGlobals "is_never" = some (some (.ref f41)))
    (l41 : K.lookup f41 = some ⟨oc41, od41, .func (PySem.W.fnOf "is_never" "is_never" (defArgs s_is_never) (defBody s_is_never) (defScope s_is_never) .none kV41 dc41 pm41 an41 cd41 ct41), sl41⟩)
    (c41 : PySem.W.codeIn K cd41 "is_never" = true)
    (k41 : PySem.W.keepIn K (.ref f41) = true)
    (a42 : PySem.W.nsIn K mainGlobals "never_two_above" = some (some (.ref f42)))
    (l42 : K.lookup f42 = some ⟨oc42, od42, .func (PySem.W.fnOf "never_two_above" "never_two_above" (defArgs s_never_two_above) (defBody s_never_two_above) (defScope s_never_two_above) .none kV42 dc42 pm42 an42 cd42 ct42), sl42⟩)
    (c42 : PySem.W.codeIn K cd42 "never_two_above" = true)
    (k42 : PySem.W.keepIn K (.ref f42) = true)
    (a43 : PySem.W.nsIn K mainGlobals "want_weights" = some (some (.ref f43)))
    (l43 : K.lookup f43 = some ⟨oc43, od43, .func (PySem.W.fnOf "want_weights" "want_weights" (defArgs s_want_weights) (defBody s_want_weights) (defScope s_want_weights) .none kV43 dc43 pm43 an43 cd43 ct43), sl43⟩)
    (c43 : PySem.W.codeIn K cd43 "want_weights" = true)
    (k43 : PySem.W.keepIn K (.ref f43) = true)
    (a44 : PySem.W.nsIn K mainGlobals "stays_below" = some (some (.ref f44)))
    (l44 : K.lookup f44 = some ⟨oc44, od44, .func (PySem.W.fnOf "stays_below" "stays_below" (defArgs s_stays_below) (defBody s_stays_below) (defScope s_stays_below) .none kV44 dc44 pm44 an44 cd44 ct44), sl44⟩)
    (c44 : PySem.W.codeIn K cd44 "stays_below" = true)
    (k44 : PySem.W.keepIn K (.ref f44) = true)
    (a45 : PySem.W.nsIn K mainGlobals "_law_due" = some (some (.ref f45)))
    (l45 : K.lookup f45 = some ⟨oc45, od45, .func (PySem.W.fnOf "_law_due" "_law_due" (defArgs s__law_due) (defBody s__law_due) (defScope s__law_due) .none kV45 dc45 pm45 an45 cd45 ct45), sl45⟩)
    (c45 : PySem.W.codeIn K cd45 "_law_due" = true)
    (k45 : PySem.W.keepIn K (.ref f45) = true)
    (a46 : PySem.W.nsIn K mainGlobals "_law_right" = some (some (.ref f46)))
    (l46 : K.lookup f46 = some ⟨oc46, od46, .func (PySem.W.fnOf "_law_right" "_law_right" (defArgs s__law_right) (defBody s__law_right) (defScope s__law_right) .none kV46 dc46 pm46 an46 cd46 ct46), sl46⟩)
    (c46 : PySem.W.codeIn K cd46 "_law_right" = true)
    (k46 : PySem.W.keepIn K (.ref f46) = true)
    (a47 : PySem.W.nsIn K mainGlobals "_law_pot" = some (some (.ref f47)))
    (l47 : K.lookup f47 = some ⟨oc47, od47, .func (PySem.W.fnOf "_law_pot" "_law_pot" (defArgs s__law_pot) (defBody s__law_pot) (defScope s__law_pot) .none kV47 dc47 pm47 an47 cd47 ct47), sl47⟩)
    (c47 : PySem.W.codeIn K cd47 "_law_pot" = true)
    (k47 : PySem.W.keepIn K (.ref f47) = true)
    (a48 : PySem.W.nsIn K mainGlobals "law" = some (some (.ref f48)))
    (l48 : K.lookup f48 = some ⟨oc48, od48, .func (PySem.W.fnOf "law" "law" (defArgs s_law) (defBody s_law) (defScope s_law) .none kV48 dc48 pm48 an48 cd48 ct48), sl48⟩)
    (c48 : PySem.W.codeIn K cd48 "law" = true)
    (k48 : PySem.W.keepIn K (.ref f48) = true)
    (pg0 : PySem.W.plainGet K C0 Str.empty = true)
    (hd0 : PySem.W.hasDictIn K C0 = true)
    (po0 : PySem.W.plainOver K C0 = true)
    (sa0 : PySem.W.findIn K (.ref C0) "__setattr__" = some (some (.builtin "object.__setattr__")))
    (mk0 : PySem.W.makesIn K C0 = true)
    (kc0 : PySem.W.keepIn K (.ref C0) = true)
    (n0x0 : PySem.W.findIn K (.ref C0) "own_shelves" = some none)
    (n0x1 : PySem.W.findIn K (.ref C0) "own_deliveries" = some none)
    (n0x2 : PySem.W.findIn K (.ref C0) "own_sales" = some none)
    (n0x3 : PySem.W.findIn K (.ref C0) "own_kept" = some none)
    (u0a : PySem.W.findIn K (.ref C0) "__class__" = some (some (.builtin "object.__class__")))
    (u0b : PySem.W.specialIn K (.builtin "object.__class__") "__get__" = some (some (.builtin "getset_descriptor.__get__")))
    (u0c : PySem.W.takesIn K (.builtin "object.__class__") = some true)
    (u0d : PySem.W.mroIn K C0 (.type "object") = some true)
    (gLEAST_SHELVES : PySem.W.nsIn K mainGlobals "LEAST_SHELVES" = some (some (.int 2 tLEAST_SHELVES)))
    (gMOST_KINDS : PySem.W.nsIn K mainGlobals "MOST_KINDS" = some (some (.int 8 tMOST_KINDS)))
    (gMOST_SHELVES : PySem.W.nsIn K mainGlobals "MOST_SHELVES" = some (some (.int 8 tMOST_SHELVES)))
    (zabs : PySem.W.nsIn K mainGlobals "abs" = some none)
    (zall : PySem.W.nsIn K mainGlobals "all" = some none)
    (zany : PySem.W.nsIn K mainGlobals "any" = some none)
    (zbool : PySem.W.nsIn K mainGlobals "bool" = some none)
    (zdivmod : PySem.W.nsIn K mainGlobals "divmod" = some none)
    (zenumerate : PySem.W.nsIn K mainGlobals "enumerate" = some none)
    (zint : PySem.W.nsIn K mainGlobals "int" = some none)
    (zisinstance : PySem.W.nsIn K mainGlobals "isinstance" = some none)
    (zlen : PySem.W.nsIn K mainGlobals "len" = some none)
    (zlist : PySem.W.nsIn K mainGlobals "list" = some none)
    (zmax : PySem.W.nsIn K mainGlobals "max" = some none)
    (zrange : PySem.W.nsIn K mainGlobals "range" = some none)
    (zrepr : PySem.W.nsIn K mainGlobals "repr" = some none)
    (zset : PySem.W.nsIn K mainGlobals "set" = some none)
    (zsorted : PySem.W.nsIn K mainGlobals "sorted" = some none)
    (zsum : PySem.W.nsIn K mainGlobals "sum" = some none)
    (ztuple : PySem.W.nsIn K mainGlobals "tuple" = some none)
    (hF : ∀ ns : List Int, ns.length ≤ 63 → (∀ z ∈ ns, Builtin.Int.intBits z ≤ 1048576) → f_law [.scr (.sc ns)] = some (.ret (.dat (.bool true)) [])) :
    ∃ (fd : FuncData) (Fs : FS), (∀ (s : Shared) (u : Value), BindsTo s fd ⟨[u], []⟩ [("script", u)]) ∧ (∀ base : Heap, K.In base → base.Ns mainGlobals mg → FnM l.prog w K mg base 10 fa fd ["script"] Fs) ∧ ∀ ns : List Int, ns.length ≤ 63 → (∀ z ∈ ns, Builtin.Int.intBits z ≤ 1048576) → Fs [.scr (.sc ns)] = some (.ret (.dat (.bool true)) []) := by
  have e := hfa.symm.trans (PySem.W.mg_of X G a48)
  cases e
  have F0 := fun_mk (st := s__law_draw) l0 c0 k0
  have b0 := F0.binds (ps := ["pot", "size"]) fun _ _ _ _ _ _ us hl => match us, hl with | [_, _], _ => rfl
  have F1 := fun_mk (st := s__law_kind) l1 c1 k1
  have b1 := F1.binds (ps := ["pot", "shelves"]) fun _ _ _ _ _ _ us hl => match us, hl with | [_, _], _ => rfl
  have F2 := fun_mk (st := s__law_world) l2 c2 k2
  have b2 := F2.binds (ps := ["pot", "most"]) fun _ _ _ _ _ _ us hl => match us, hl with | [_, _], _ => rfl
  have F3 := fun_mk (st := s_is_integer) l3 c3 k3
  have b3 := F3.binds (ps := ["value"]) fun _ _ _ _ _ _ us hl => match us, hl with | [_], _ => rfl
  have F4 := fun_mk (st := s_is_count) l4 c4 k4
  have b4 := F4.binds (ps := ["value"]) fun _ _ _ _ _ _ us hl => match us, hl with | [_], _ => rfl
  have F5 := fun_mk (st := s_are_shelves) l5 c5 k5
  have b5 := F5.binds (ps := ["value"]) fun _ _ _ _ _ _ us hl => match us, hl with | [_], _ => rfl
  have F6 := fun_mk (st := s_want_shelves) l6 c6 k6
  have b6 := F6.binds (ps := ["value"]) fun _ _ _ _ _ _ us hl => match us, hl with | [_], _ => rfl
  have F7 := fun_mk (st := s_bits_of) l7 c7 k7
  have b7 := F7.binds (ps := ["lot"]) fun _ _ _ _ _ _ us hl => match us, hl with | [_], _ => rfl
  have F8 := fun_mk (st := s_spots_of) l8 c8 k8
  have b8 := F8.binds (ps := ["bits"]) fun _ _ _ _ _ _ us hl => match us, hl with | [_], _ => rfl
  have F9 := fun_mk (st := s_told_lot) l9 c9 k9
  have b9 := F9.binds (ps := ["bits"]) fun _ _ _ _ _ _ us hl => match us, hl with | [_], _ => rfl
  have F10 := fun_mk (st := s_plain_kinds) l10 c10 k10
  have b10 := F10.binds (ps := ["kinds"]) fun _ _ _ _ _ _ us hl => match us, hl with | [_], _ => rfl
  have F11 := fun_mk (st := s_is_list) l11 c11 k11
  have b11 := F11.binds (ps := ["value"]) fun _ _ _ _ _ _ us hl => match us, hl with | [_], _ => rfl
  have F12 := fun_mk (st := s_is_lot_of) l12 c12 k12
  have b12 := F12.binds (ps := ["shelves", "value"]) fun _ _ _ _ _ _ us hl => match us, hl with | [_, _], _ => rfl
  have F13 := fun_mk (st := s_is_kind) l13 c13 k13
  have b13 := F13.binds (ps := ["shelves", "value"]) fun _ _ _ _ _ _ us hl => match us, hl with | [_, _], _ => rfl
  have F14 := fun_mk (st := s_are_kinds) l14 c14 k14
  have b14 := F14.binds (ps := ["shelves", "value"]) fun _ _ _ _ _ _ us hl => match us, hl with | [_, _], _ => rfl
  have F15 := fun_mk (st := s_Store_init) l15 c15 k15
  have b15 := F15.binds (ps := ["self", "shelves", "deliveries", "sales"]) fun _ _ _ _ _ _ us hl => match us, hl with | [_, _, _, _], _ => rfl
  have F16 := fun_mk (st := s__law_store) l16 c16 k16
  have b16 := F16.binds (ps := ["world"]) fun _ _ _ _ _ _ us hl => match us, hl with | [_], _ => rfl
  have F17 := fun_mk (st := s__law_steps) l17 c17 k17
  have b17 := F17.binds (ps := ["plain"]) fun _ _ _ _ _ _ us hl => match us, hl with | [_], _ => rfl
  have F18 := fun_mk (st := s__law_led) l18 c18 k18
  have b18 := F18.binds (ps := ["plain", "lot", "step"]) fun _ _ _ _ _ _ us hl => match us, hl with | [_, _, _], _ => rfl
  have F19 := fun_mk (st := s__law_flats) l19 c19 k19
  have b19 := F19.binds (ps := ["plain"]) fun _ _ _ _ _ _ us hl => match us, hl with | [_], _ => rfl
  have F20 := fun_mk (st := s__law_order) l20 c20 k20
  have b20 := F20.binds (ps := ["pot", "many"]) fun _ _ _ _ _ _ us hl => match us, hl with | [_, _], _ => rfl
  have F21 := fun_mk (st := s__law_lot) l21 c21 k21
  have b21 := F21.binds (ps := ["pot", "many"]) fun _ _ _ _ _ _ us hl => match us, hl with | [_, _], _ => rfl
  have F22 := fun_mk (st := s__law_told) l22 c22 k22
  have b22 := F22.binds (ps := ["kinds"]) fun _ _ _ _ _ _ us hl => match us, hl with | [_], _ => rfl
  have F23 := fun_mk (st := s__law_plain) l23 c23 k23
  have b23 := F23.binds (ps := ["world"]) fun _ _ _ _ _ _ us hl => match us, hl with | [_], _ => rfl
  have F24 := fun_mk (st := s_want_store) l24 c24 k24
  have b24 := F24.binds (ps := ["value"]) fun _ _ _ _ _ _ us hl => match us, hl with | [_], _ => rfl
  have F25 := fun_mk (st := s_want_lot) l25 c25 k25
  have b25 := F25.binds (ps := ["shelves", "value"]) fun _ _ _ _ _ _ us hl => match us, hl with | [_, _], _ => rfl
  have F26 := fun_mk (st := s_want_lot_of) l26 c26 k26
  have b26 := F26.binds (ps := ["store", "value"]) fun _ _ _ _ _ _ us hl => match us, hl with | [_, _], _ => rfl
  have F27 := fun_mk (st := s_led_on) l27 c27 k27
  have b27 := F27.binds (ps := ["store", "bits"]) fun _ _ _ _ _ _ us hl => match us, hl with | [_, _], _ => rfl
  have F28 := fun_mk (st := s_closed_from) l28 c28 k28
  have b28 := F28.binds (ps := ["store", "some"]) fun _ _ _ _ _ _ us hl => match us, hl with | [_, _], _ => rfl
  have F29 := fun_mk (st := s_flat_bits) l29 c29 k29
  have b29 := F29.binds (ps := ["store"]) fun _ _ _ _ _ _ us hl => match us, hl with | [_], _ => rfl
  have F30 := fun_mk (st := s_weight_of) l30 c30 k30
  have b30 := F30.binds (ps := ["weights", "bits"]) fun _ _ _ _ _ _ us hl => match us, hl with | [_, _], _ => rfl
  have F31 := fun_mk (st := s_rising_bits) l31 c31 k31
  have b31 := F31.binds (ps := ["store", "weights"]) fun _ _ _ _ _ _ us hl => match us, hl with | [_, _], _ => rfl
  have F32 := fun_mk (st := s_stays_of) l32 c32 k32
  have b32 := F32.binds (ps := ["store", "weights"]) fun _ _ _ _ _ _ us hl => match us, hl with | [_, _], _ => rfl
  have F33 := fun_mk (st := s_unlike_weights) l33 c33 k33
  have b33 := F33.binds (ps := ["store", "near", "far"]) fun _ _ _ _ _ _ us hl => match us, hl with | [_, _, _], _ => rfl
  have F34 := fun_mk (st := s_never_more) l34 c34 k34
  have b34 := F34.binds (ps := ["store", "lot", "other"]) fun _ _ _ _ _ _ us hl => match us, hl with | [_, _, _], _ => rfl
  have F35 := fun_mk (st := s_want_shelf) l35 c35 k35
  have b35 := F35.binds (ps := ["store", "value"]) fun _ _ _ _ _ _ us hl => match us, hl with | [_, _], _ => rfl
  have F36 := fun_mk (st := s_want_other_shelf) l36 c36 k36
  have b36 := F36.binds (ps := ["store", "shelf", "value"]) fun _ _ _ _ _ _ us hl => match us, hl with | [_, _, _], _ => rfl
  have F37 := fun_mk (st := s_holds) l37 c37 k37
  have b37 := F37.binds (ps := ["bits", "shelf"]) fun _ _ _ _ _ _ us hl => match us, hl with | [_, _], _ => rfl
  have F38 := fun_mk (st := s_is_named) l38 c38 k38
  have b38 := F38.binds (ps := ["store", "shelf"]) fun _ _ _ _ _ _ us hl => match us, hl with | [_, _], _ => rfl
  have F39 := fun_mk (st := s_positions_with) l39 c39 k39
  have b39 := F39.binds (ps := ["kinds", "shelf", "other"]) fun _ _ _ _ _ _ us hl => match us, hl with | [_, _, _], _ => rfl
  have F40 := fun_mk (st := s_blame_of) l40 c40 k40
  have b40 := F40.binds (ps := ["store", "shelf", "other"]) fun _ _ _ _ _ _ us hl => match us, hl with | [_, _, _], _ => rfl
  have F41 := fun_mk (st := s_is_never) l41 c41 k41
  have b41 := F41.binds (ps := ["store", "shelf", "other"]) fun _ _ _ _ _ _ us hl => match us, hl with | [_, _, _], _ => rfl
  have F42 := fun_mk (st := s_never_two_above) l42 c42 k42
  have b42 := F42.binds (ps := ["store", "shelf", "other"]) fun _ _ _ _ _ _ us hl => match us, hl with | [_, _, _], _ => rfl
  have F43 := fun_mk (st := s_want_weights) l43 c43 k43
  have b43 := F43.binds (ps := ["store", "value"]) fun _ _ _ _ _ _ us hl => match us, hl with | [_, _], _ => rfl
  have F44 := fun_mk (st := s_stays_below) l44 c44 k44
  have b44 := F44.binds (ps := ["store", "weights"]) fun _ _ _ _ _ _ us hl => match us, hl with | [_, _], _ => rfl
  have F45 := fun_mk (st := s__law_due) l45 c45 k45
  have b45 := F45.binds (ps := ["flats", "lot", "other"]) fun _ _ _ _ _ _ us hl => match us, hl with | [_, _, _], _ => rfl
  have F46 := fun_mk (st := s__law_right) l46 c46 k46
  have b46 := F46.binds (ps := ["pot"]) fun _ _ _ _ _ _ us hl => match us, hl with | [_], _ => rfl
  have F47 := fun_mk (st := s__law_pot) l47 c47 k47
  have b47 := F47.binds (ps := ["script", "k"]) fun _ _ _ _ _ _ us hl => match us, hl with | [_, _], _ => rfl
  have F48 := fun_mk (st := s_law) l48 c48 k48
  have b48 := F48.binds (ps := ["script"]) fun _ _ _ _ _ _ us hl => match us, hl with | [_], _ => rfl
  refine ⟨_, f_law, fun s v => .of_eq rfl, fun base _ _ => m_law (mg := mg) {
    a__law_draw := _, d__law_draw := _, F__law_draw := F0, b__law_draw := b0,
    g__law_draw := PySem.W.mg_of X G a0,
    a__law_kind := _, d__law_kind := _, F__law_kind := F1, b__law_kind := b1,
    g__law_kind := PySem.W.mg_of X G a1,
    a__law_world := _, d__law_world := _, F__law_world := F2, b__law_world := b2,
    g__law_world := PySem.W.mg_of X G a2,
    a_is_integer := _, d_is_integer := _, F_is_integer := F3, b_is_integer := b3,
    g_is_integer := PySem.W.mg_of X G a3,
    a_is_count := _, d_is_count := _, F_is_count := F4, b_is_count := b4,
    g_is_count := PySem.W.mg_of X G a4,
    a_are_shelves := _, d_are_shelves := _, F_are_shelves := F5, b_are_shelves := b5,
    g_are_shelves := PySem.W.mg_of X G a5,
    a_want_shelves := _, d_want_shelves := _, F_want_shelves := F6, b_want_shelves := b6,
    g_want_shelves := PySem.W.mg_of X G a6,
    a_bits_of := _, d_bits_of := _, F_bits_of := F7, b_bits_of := b7,
    g_bits_of := PySem.W.mg_of X G a7,
    a_spots_of := _, d_spots_of := _, F_spots_of := F8, b_spots_of := b8,
    g_spots_of := PySem.W.mg_of X G a8,
    a_told_lot := _, d_told_lot := _, F_told_lot := F9, b_told_lot := b9,
    g_told_lot := PySem.W.mg_of X G a9,
    a_plain_kinds := _, d_plain_kinds := _, F_plain_kinds := F10, b_plain_kinds := b10,
    g_plain_kinds := PySem.W.mg_of X G a10,
    a_is_list := _, d_is_list := _, F_is_list := F11, b_is_list := b11,
    g_is_list := PySem.W.mg_of X G a11,
    a_is_lot_of := _, d_is_lot_of := _, F_is_lot_of := F12, b_is_lot_of := b12,
    g_is_lot_of := PySem.W.mg_of X G a12,
    a_is_kind := _, d_is_kind := _, F_is_kind := F13, b_is_kind := b13,
    g_is_kind := PySem.W.mg_of X G a13,
    a_are_kinds := _, d_are_kinds := _, F_are_kinds := F14, b_are_kinds := b14,
    g_are_kinds := PySem.W.mg_of X G a14,
    a_Store_init := _, d_Store_init := _, F_Store_init := F15, b_Store_init := b15,
    a__law_store := _, d__law_store := _, F__law_store := F16, b__law_store := b16,
    g__law_store := PySem.W.mg_of X G a16,
    a__law_steps := _, d__law_steps := _, F__law_steps := F17, b__law_steps := b17,
    g__law_steps := PySem.W.mg_of X G a17,
    a__law_led := _, d__law_led := _, F__law_led := F18, b__law_led := b18,
    g__law_led := PySem.W.mg_of X G a18,
    a__law_flats := _, d__law_flats := _, F__law_flats := F19, b__law_flats := b19,
    g__law_flats := PySem.W.mg_of X G a19,
    a__law_order := _, d__law_order := _, F__law_order := F20, b__law_order := b20,
    g__law_order := PySem.W.mg_of X G a20,
    a__law_lot := _, d__law_lot := _, F__law_lot := F21, b__law_lot := b21,
    g__law_lot := PySem.W.mg_of X G a21,
    a__law_told := _, d__law_told := _, F__law_told := F22, b__law_told := b22,
    g__law_told := PySem.W.mg_of X G a22,
    a__law_plain := _, d__law_plain := _, F__law_plain := F23, b__law_plain := b23,
    g__law_plain := PySem.W.mg_of X G a23,
    a_want_store := _, d_want_store := _, F_want_store := F24, b_want_store := b24,
    g_want_store := PySem.W.mg_of X G a24,
    a_want_lot := _, d_want_lot := _, F_want_lot := F25, b_want_lot := b25,
    g_want_lot := PySem.W.mg_of X G a25,
    a_want_lot_of := _, d_want_lot_of := _, F_want_lot_of := F26, b_want_lot_of := b26,
    g_want_lot_of := PySem.W.mg_of X G a26,
    a_led_on := _, d_led_on := _, F_led_on := F27, b_led_on := b27,
    g_led_on := PySem.W.mg_of X G a27,
    a_closed_from := _, d_closed_from := _, F_closed_from := F28, b_closed_from := b28,
    g_closed_from := PySem.W.mg_of X G a28,
    a_flat_bits := _, d_flat_bits := _, F_flat_bits := F29, b_flat_bits := b29,
    g_flat_bits := PySem.W.mg_of X G a29,
    a_weight_of := _, d_weight_of := _, F_weight_of := F30, b_weight_of := b30,
    g_weight_of := PySem.W.mg_of X G a30,
    a_rising_bits := _, d_rising_bits := _, F_rising_bits := F31, b_rising_bits := b31,
    g_rising_bits := PySem.W.mg_of X G a31,
    a_stays_of := _, d_stays_of := _, F_stays_of := F32, b_stays_of := b32,
    g_stays_of := PySem.W.mg_of X G a32,
    a_unlike_weights := _, d_unlike_weights := _, F_unlike_weights := F33, b_unlike_weights := b33,
    g_unlike_weights := PySem.W.mg_of X G a33,
    a_never_more := _, d_never_more := _, F_never_more := F34, b_never_more := b34,
    g_never_more := PySem.W.mg_of X G a34,
    a_want_shelf := _, d_want_shelf := _, F_want_shelf := F35, b_want_shelf := b35,
    g_want_shelf := PySem.W.mg_of X G a35,
    a_want_other_shelf := _, d_want_other_shelf := _, F_want_other_shelf := F36, b_want_other_shelf := b36,
    g_want_other_shelf := PySem.W.mg_of X G a36,
    a_holds := _, d_holds := _, F_holds := F37, b_holds := b37,
    g_holds := PySem.W.mg_of X G a37,
    a_is_named := _, d_is_named := _, F_is_named := F38, b_is_named := b38,
    g_is_named := PySem.W.mg_of X G a38,
    a_positions_with := _, d_positions_with := _, F_positions_with := F39, b_positions_with := b39,
    g_positions_with := PySem.W.mg_of X G a39,
    a_blame_of := _, d_blame_of := _, F_blame_of := F40, b_blame_of := b40,
    g_blame_of := PySem.W.mg_of X G a40,
    a_is_never := _, d_is_never := _, F_is_never := F41, b_is_never := b41,
    g_is_never := PySem.W.mg_of X G a41,
    a_never_two_above := _, d_never_two_above := _, F_never_two_above := F42, b_never_two_above := b42,
    g_never_two_above := PySem.W.mg_of X G a42,
    a_want_weights := _, d_want_weights := _, F_want_weights := F43, b_want_weights := b43,
    g_want_weights := PySem.W.mg_of X G a43,
    a_stays_below := _, d_stays_below := _, F_stays_below := F44, b_stays_below := b44,
    g_stays_below := PySem.W.mg_of X G a44,
    a__law_due := _, d__law_due := _, F__law_due := F45, b__law_due := b45,
    g__law_due := PySem.W.mg_of X G a45,
    a__law_right := _, d__law_right := _, F__law_right := F46, b__law_right := b46,
    g__law_right := PySem.W.mg_of X G a46,
    a__law_pot := _, d__law_pot := _, F__law_pot := F47, b__law_pot := b47,
    g__law_pot := PySem.W.mg_of X G a47,
    a_law := _, d_law := _, F_law := F48, b_law := b48,
    g_law := PySem.W.mg_of X G a48,
    C_Store := C0, g_Store := PySem.W.mg_of X G aC0, cl_Store := ⟨pg0, hd0, po0, sa0⟩, is_Store := ⟨u0a, u0b, u0c, u0d⟩,
    mk_Store := ⟨mk0, a15, i15, kc0⟩,
    no_Store_own_shelves := n0x0,
    no_Store_own_deliveries := n0x1,
    no_Store_own_sales := n0x2,
    no_Store_own_kept := n0x3,
    t_LEAST_SHELVES := tLEAST_SHELVES, g_LEAST_SHELVES := PySem.W.mg_of X G gLEAST_SHELVES,
    t_MOST_KINDS := tMOST_KINDS, g_MOST_KINDS := PySem.W.mg_of X G gMOST_KINDS,
    t_MOST_SHELVES := tMOST_SHELVES, g_MOST_SHELVES := PySem.W.mg_of X G gMOST_SHELVES,
    z_abs := PySem.W.mg_none_of X G zabs,
    z_all := PySem.W.mg_none_of X G zall,
    z_any := PySem.W.mg_none_of X G zany,
    z_bool := PySem.W.mg_none_of X G zbool,
    z_divmod := PySem.W.mg_none_of X G zdivmod,
    z_enumerate := PySem.W.mg_none_of X G zenumerate,
    z_int := PySem.W.mg_none_of X G zint,
    z_isinstance := PySem.W.mg_none_of X G zisinstance,
    z_len := PySem.W.mg_none_of X G zlen,
    z_list := PySem.W.mg_none_of X G zlist,
    z_max := PySem.W.mg_none_of X G zmax,
    z_range := PySem.W.mg_none_of X G zrange,
    z_repr := PySem.W.mg_none_of X G zrepr,
    z_set := PySem.W.mg_none_of X G zset,
    z_sorted := PySem.W.mg_none_of X G zsorted,
    z_sum := PySem.W.mg_none_of X G zsum,
    z_tuple := PySem.W.mg_none_of X G ztuple,
    kb0 := kb_mk F34 (by decide) fun _ _ _ _ _ _ us ws zs h1 h2 e => match us, ws, zs, h1, h2, e with | [], [_, _, _], _, _, _, e => by cases e; rfl }, hF⟩
end K46
open PySem PySem.W PyProof.Rows in
set_option maxRecDepth 100000 in
set_option maxHeartbeats 0 in
theorem PySem.Challenge.cw_fairshelves_k46_whole_never_more_holds : PySem.Challenge.rw_fairshelves_k46_whole_never_more.Holds := by
  w_on; o_law; k_head; (case hw => w_witness2)
  k_fill
  refine Py.walkM (l := PySem.Challenge.rw_fairshelves_k46_whole_never_more) (n := 63) (k := 10) (x := "script") rfl (by decide) rfl ⟨rfl, by decide, by decide⟩ (fun w h Y => PySem.W.kIn_of Y) ?F
  case F =>
    intro w mg fa h KX G hmg
    refine' K46.all_mk KX G hmg ?aC0 ?a0 ?l0 ?c0 ?k0 ?a1 ?l1 ?c1 ?k1 ?a2 ?l2 ?c2 ?k2 ?a3 ?l3 ?c3 ?k3 ?a4 ?l4 ?c4 ?k4 ?a5 ?l5 ?c5 ?k5 ?a6 ?l6 ?c6 ?k6 ?a7 ?l7 ?c7 ?k7 ?a8 ?l8 ?c8 ?k8 ?a9 ?l9 ?c9 ?k9 ?a10 ?l10 ?c10 ?k10 ?a11 ?l11 ?c11 ?k11 ?a12 ?l12 ?c12 ?k12 ?a13 ?l13 ?c13 ?k13 ?a14 ?l14 ?c14 ?k14 ?a15 ?i15 ?l15 ?c15 ?k15 ?a16 ?l16 ?c16 ?k16 ?a17 ?l17 ?c17 ?k17 ?a18 ?l18 ?c18 ?k18 ?a19 ?l19 ?c19 ?k19 ?a20 ?l20 ?c20 ?k20 ?a21 ?l21 ?c21 ?k21 ?a22 ?l22 ?c22 ?k22 ?a23 ?l23 ?c23 ?k23 ?a24 ?l24 ?c24 ?k24 ?a25 ?l25 ?c25 ?k25 ?a26 ?l26 ?c26 ?k26 ?a27 ?l27 ?c27 ?k27 ?a28 ?l28 ?c28 ?k28 ?a29 ?l29 ?c29 ?k29 ?a30 ?l30 ?c30 ?k30 ?a31 ?l31 ?c31 ?k31 ?a32 ?l32 ?c32 ?k32 ?a33 ?l33 ?c33 ?k33 ?a34 ?l34 ?c34 ?k34 ?a35 ?l35 ?c35 ?k35 ?a36 ?l36 ?c36 ?k36 ?a37 ?l37 ?c37 ?k37 ?a38 ?l38 ?c38 ?k38 ?a39 ?l39 ?c39 ?k39 ?a40 ?l40 ?c40 ?k40 ?a41 ?l41 ?c41 ?k41 ?a42 ?l42 ?c42 ?k42 ?a43 ?l43 ?c43 ?k43 ?a44 ?l44 ?c44 ?k44 ?a45 ?l45 ?c45 ?k45 ?a46 ?l46 ?c46 ?k46 ?a47 ?l47 ?c47 ?k47 ?a48 ?l48 ?c48 ?k48 ?pg0 ?hd0 ?po0 ?sa0 ?mk0 ?kc0 ?n0x0 ?n0x1 ?n0x2 ?n0x3 ?u0a ?u0b ?u0c ?u0d ?gLEAST_SHELVES ?gMOST_KINDS ?gMOST_SHELVES ?zabs ?zall ?zany ?zbool ?zdivmod ?zenumerate ?zint ?zisinstance ?zlen ?zlist ?zmax ?zrange ?zrepr ?zset ?zsorted ?zsum ?ztuple K46.law_true
    (case aC0 => k_is)
    (case a0 => k_is)
    (case l0 => k_is)
    (case c0 => k_is)
    (case k0 => k_is)
    (case a1 => k_is)
    (case l1 => k_is)
    (case c1 => k_is)
    (case k1 => k_is)
    (case a2 => k_is)
    (case l2 => k_is)
    (case c2 => k_is)
    (case k2 => k_is)
    (case a3 => k_is)
    (case l3 => k_is)
    (case c3 => k_is)
    (case k3 => k_is)
    (case a4 => k_is)
    (case l4 => k_is)
    (case c4 => k_is)
    (case k4 => k_is)
    (case a5 => k_is)
    (case l5 => k_is)
    (case c5 => k_is)
    (case k5 => k_is)
    (case a6 => k_is)
    (case l6 => k_is)
    (case c6 => k_is)
    (case k6 => k_is)
    (case a7 => k_is)
    (case l7 => k_is)
    (case c7 => k_is)
    (case k7 => k_is)
    (case a8 => k_is)
    (case l8 => k_is)
    (case c8 => k_is)
    (case k8 => k_is)
    (case a9 => k_is)
    (case l9 => k_is)
    (case c9 => k_is)
    (case k9 => k_is)
    (case a10 => k_is)
    (case l10 => k_is)
    (case c10 => k_is)
    (case k10 => k_is)
    (case a11 => k_is)
    (case l11 => k_is)
    (case c11 => k_is)
    (case k11 => k_is)
    (case a12 => k_is)
    (case l12 => k_is)
    (case c12 => k_is)
    (case k12 => k_is)
    (case a13 => k_is)
    (case l13 => k_is)
    (case c13 => k_is)
    (case k13 => k_is)
    (case a14 => k_is)
    (case l14 => k_is)
    (case c14 => k_is)
    (case k14 => k_is)
    (case a15 => k_is)
    (case i15 => k_is)
    (case l15 => k_is)
    (case c15 => k_is)
    (case k15 => k_is)
    (case a16 => k_is)
    (case l16 => k_is)
    (case c16 => k_is)
    (case k16 => k_is)
    (case a17 => k_is)
    (case l17 => k_is)
    (case c17 => k_is)
    (case k17 => k_is)
    (case a18 => k_is)
    (case l18 => k_is)
    (case c18 => k_is)
    (case k18 => k_is)
    (case a19 => k_is)
    (case l19 => k_is)
    (case c19 => k_is)
    (case k19 => k_is)
    (case a20 => k_is)
    (case l20 => k_is)
    (case c20 => k_is)
    (case k20 => k_is)
    (case a21 => k_is)
    (case l21 => k_is)
    (case c21 => k_is)
    (case k21 => k_is)
    (case a22 => k_is)
    (case l22 => k_is)
    (case c22 => k_is)
    (case k22 => k_is)
    (case a23 => k_is)
    (case l23 => k_is)
    (case c23 => k_is)
    (case k23 => k_is)
    (case a24 => k_is)
    (case l24 => k_is)
    (case c24 => k_is)
    (case k24 => k_is)
    (case a25 => k_is)
    (case l25 => k_is)
    (case c25 => k_is)
    (case k25 => k_is)
    (case a26 => k_is)
    (case l26 => k_is)
    (case c26 => k_is)
    (case k26 => k_is)
    (case a27 => k_is)
    (case l27 => k_is)
    (case c27 => k_is)
    (case k27 => k_is)
    (case a28 => k_is)
    (case l28 => k_is)
    (case c28 => k_is)
    (case k28 => k_is)
    (case a29 => k_is)
    (case l29 => k_is)
    (case c29 => k_is)
    (case k29 => k_is)
    (case a30 => k_is)
    (case l30 => k_is)
    (case c30 => k_is)
    (case k30 => k_is)
    (case a31 => k_is)
    (case l31 => k_is)
    (case c31 => k_is)
    (case k31 => k_is)
    (case a32 => k_is)
    (case l32 => k_is)
    (case c32 => k_is)
    (case k32 => k_is)
    (case a33 => k_is)
    (case l33 => k_is)
    (case c33 => k_is)
    (case k33 => k_is)
    (case a34 => k_is)
    (case l34 => k_is)
    (case c34 => k_is)
    (case k34 => k_is)
    (case a35 => k_is)
    (case l35 => k_is)
    (case c35 => k_is)
    (case k35 => k_is)
    (case a36 => k_is)
    (case l36 => k_is)
    (case c36 => k_is)
    (case k36 => k_is)
    (case a37 => k_is)
    (case l37 => k_is)
    (case c37 => k_is)
    (case k37 => k_is)
    (case a38 => k_is)
    (case l38 => k_is)
    (case c38 => k_is)
    (case k38 => k_is)
    (case a39 => k_is)
    (case l39 => k_is)
    (case c39 => k_is)
    (case k39 => k_is)
    (case a40 => k_is)
    (case l40 => k_is)
    (case c40 => k_is)
    (case k40 => k_is)
    (case a41 => k_is)
    (case l41 => k_is)
    (case c41 => k_is)
    (case k41 => k_is)
    (case a42 => k_is)
    (case l42 => k_is)
    (case c42 => k_is)
    (case k42 => k_is)
    (case a43 => k_is)
    (case l43 => k_is)
    (case c43 => k_is)
    (case k43 => k_is)
    (case a44 => k_is)
    (case l44 => k_is)
    (case c44 => k_is)
    (case k44 => k_is)
    (case a45 => k_is)
    (case l45 => k_is)
    (case c45 => k_is)
    (case k45 => k_is)
    (case a46 => k_is)
    (case l46 => k_is)
    (case c46 => k_is)
    (case k46 => k_is)
    (case a47 => k_is)
    (case l47 => k_is)
    (case c47 => k_is)
    (case k47 => k_is)
    (case a48 => k_is)
    (case l48 => k_is)
    (case c48 => k_is)
    (case k48 => k_is)
    (case pg0 => k_is)
    (case hd0 => k_is)
    (case po0 => k_is)
    (case sa0 => k_is)
    (case mk0 => k_is)
    (case kc0 => k_is)
    (case n0x0 => k_is)
    (case n0x1 => k_is)
    (case n0x2 => k_is)
    (case n0x3 => k_is)
    (case u0a => k_is)
    (case u0b => k_is)
    (case u0c => k_is)
    (case u0d => k_is)
    (case gLEAST_SHELVES => k_is)
    (case gMOST_KINDS => k_is)
    (case gMOST_SHELVES => k_is)
    (case zabs => k_is)
    (case zall => k_is)
    (case zany => k_is)
    (case zbool => k_is)
    (case zdivmod => k_is)
    (case zenumerate => k_is)
    (case zint => k_is)
    (case zisinstance => k_is)
    (case zlen => k_is)
    (case zlist => k_is)
    (case zmax => k_is)
    (case zrange => k_is)
    (case zrepr => k_is)
    (case zset => k_is)
    (case zsorted => k_is)
    (case zsum => k_is)
    (case ztuple => k_is)
