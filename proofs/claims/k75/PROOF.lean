import PyProof.Rows.All
import HandS.ForMost
import HandS.Flow
import HandS.Style
import HandS.Star
import HandS.Wide
import HandS.IsInst
import HandS.EndBits
import HandS.SortKw
import HandS.DictComp
import HandS.ForDict
import HandS.ListItems
import KE.SortData
import KE.SortKeyHeap
import KE.DataCmp
import KE.DataMinMax
import KE.DataAny
import KE.KDictKeyed
import KE.GoesEnum
import KE.GoesZip
import KE.DataIsa
import HandS.TupAny
import HandS.TupMul
import PySem.Challenge.RW_siftmarks_k75_new_shapes
set_option Elab.async false
set_option linter.all false
set_option maxRecDepth 100000
set_option maxHeartbeats 4000000
/-! PX: plain data over the hand layer: values that hold data, slots, what an expression computes -/
namespace PX
open PySem PySem.Spec PyProof.Rows L2

abbrev D := PyData
abbrev Prot := Addr → Prop
abbrev Frag := PySem.W.Frag

/-- a key as data -/
def kD : Key → D
  | .inl i => .int i
  | .inr x => .str x
/-- a dict with tuple keys: its raw entries -/
abbrev TKey := List Key × Addr × Value
def DTok (P : Program) (w : World) (a : Addr) (xs : List TKey) (h : Heap) : Prop :=
  xs.length ≤ sizeLine ∧ (a == sysModules) = false ∧
  ∃ o es ep, h.get? a = some o ∧ o.ExactDict ∧ o.data = .dict es ep ∧ es.toList = xs.map (entryOfKey (tupleKind (mixKind P w))) ∧ (xs.map (·.1)).Nodup

section
variable (P : Program) (w : World) (K : Frag) (M : Prot) (H : Hp)
/-- a tuple of the module's own -/
def TK (a : Addr) (xs : List V) : Prop :=
  ∃ (o : Obj) (its : Array Value) (n : Nat), K.lookup a = some o ∧ o.cls = .type "tuple" ∧ o.data = .seq its n ∧ its.size ≤ sizeLine ∧ Vals xs its.toList
/-- a tuple: its object has no dict of its own -/
def TN (a : Addr) (xs : List V) : Prop := (¬ M a ∧ ∃ ob : Obj, H a = some (.frz ob (.tup xs)) ∧ ob.dict = none) ∨ TK K a xs
/-- a dict, by its keys' data and its values -/
def DN (a : Addr) (es : List (D × V)) : Prop :=
  (∃ kvs : List (Key × V), Rd H a (.dK kvs) ∧ es = kvs.map (fun p => (kD p.1, p.2))) ∨
    ∃ (xs : List TKey) (vs : List V), Rd H a (.ext (DTok P w a xs)) ∧ Vals vs (xs.map (·.2.2)) ∧ (∀ x ∈ xs, TN K M H x.2.1 (x.1.map kV)) ∧ (es = ((xs.zip vs).map fun p => (.tuple (p.1.1.map kD), p.2)) ∧ xs ≠ [])

mutual
/-- v holds d; no object in it is protected -/
def Cl : D → V → Prop
  | .none, v => v = .non
  | .bool b, v => v = .bl b
  | .int i, v => v = .int i
  | .str x, v => v = .str x
  | .tuple ds, v => ∃ a xs, v = .ref a ∧ TN K M H a xs ∧ ClA ds xs
  | .list ds, v => ∃ a xs, v = .ref a ∧ ¬ M a ∧ Rd H a (.lst xs) ∧ ClA ds xs
  | .dict ps, v => ∃ a es, v = .ref a ∧ ¬ M a ∧ DN P w K M H a es ∧ ClP ps es
def ClA : List D → List V → Prop
  | [], vs => vs = []
  | d :: ds, vs => ∃ v r, vs = v :: r ∧ Cl d v ∧ ClA ds r
def ClP : List (D × D) → List (D × V) → Prop
  | [], es => es = []
  | p :: ps, es => ∃ e r, es = e :: r ∧ ClPr p e ∧ ClP ps r
def ClPr : D × D → D × V → Prop
  | (k, d), e => e.1 = k ∧ Cl d e.2
end
/-- .. at the top whatever object (a slot's own list or dict, a pair just made) -/
def Sh : D → V → Prop
  | .tuple ds, v => ∃ a xs, v = .ref a ∧ TN K M H a xs ∧ ClA P w K M H ds xs
  | .list ds, v => ∃ a xs, v = .ref a ∧ Rd H a (.lst xs) ∧ ClA P w K M H ds xs
  | .dict ps, v => ∃ a es, v = .ref a ∧ DN P w K M H a es ∧ ClP P w K M H ps es
  | .none, v => v = .non
  | .bool b, v => v = .bl b
  | .int i, v => v = .int i
  | .str x, v => v = .str x
/-- what stands at a slot's own list or dict -/
def Co : D → Addr → Prop
  | .list ds, a => ∃ xs, H a = some (.lst xs) ∧ ClA P w K M H ds xs
  | .dict ps, a => ∃ es, ((∃ kvs : List (Key × V), H a = some (.dK kvs) ∧ es = kvs.map (fun p => (kD p.1, p.2))) ∨
      ∃ (xs : List TKey) (vs : List V), H a = some (.ext (DTok P w a xs)) ∧ Vals vs (xs.map (·.2.2)) ∧ (∀ x ∈ xs, TN K M H x.2.1 (x.1.map kV)) ∧ (es = ((xs.zip vs).map fun p => (.tuple (p.1.1.map kD), p.2)) ∧ xs ≠ [])) ∧ ClP P w K M H ps es
  | _, _ => False
end

/-! ### what changes leave alone -/
def dictish : HO → Prop
  | .dK _ => True
  | .ext _ => True
  | _ => False
/-- the same dict, locked or not -/
def sameD (o o' : HO) : Prop := ∃ u, dictish u ∧ (o = u ∨ ∃ x, o = .frz x u) ∧ (o' = u ∨ ∃ y, o' = .frz y u)
def Keeps (o o' : HO) : Prop := o' = o ∨ sameD o o'
theorem Keeps.refl (o : HO) : Keeps o o := .inl rfl
theorem Keeps.trans {o o' o'' : HO} (a : Keeps o o') (b : Keeps o' o'') : Keeps o o'' := by
  rcases a with rfl | ⟨u, du, h1, h2⟩
  · exact b
  · rcases b with rfl | ⟨u', du', h3, h4⟩
    · exact .inr ⟨u, du, h1, h2⟩
    · have e : u = u' := by
        rcases h2 with rfl | ⟨y, rfl⟩
        · rcases h3 with e | ⟨x, rfl⟩
          · exact e
          · exact du.elim
        · rcases h3 with rfl | ⟨x, e⟩
          · exact du'.elim
          · injection e
      subst e
      exact .inr ⟨u, du, h1, h4⟩
theorem Keeps.tup {ob : Obj} {xs : List V} {o' : HO} (k : Keeps (.frz ob (.tup xs)) o') : o' = .frz ob (.tup xs) := by
  rcases k with e | ⟨u, du, h1, h2⟩
  · exact e
  · rcases h1 with rfl | ⟨x, e⟩
    · exact du.elim
    · injection e with _ e
      subst e
      exact du.elim
theorem Keeps.lst {xs : List V} {o' : HO} (k : Keeps (.lst xs) o') : o' = .lst xs := by
  rcases k with e | ⟨u, du, h1, h2⟩
  · exact e
  · rcases h1 with rfl | ⟨x, e⟩
    · exact du.elim
    · cases e
theorem Keeps.flst {ob : Obj} {xs : List V} {o' : HO} (k : Keeps (.frz ob (.lst xs)) o') : o' = .frz ob (.lst xs) := by
  rcases k with e | ⟨u, du, h1, h2⟩
  · exact e
  · rcases h1 with rfl | ⟨x, e⟩
    · exact du.elim
    · injection e with _ e
      subst e
      exact du.elim
theorem Keeps.rd {H H' : Hp} {a : Addr} {u : HO} (du : dictish u) (k : ∀ o, H a = some o → ∃ o', H' a = some o' ∧ Keeps o o') (h : Rd H a u) : Rd H' a u := by
  rcases h with h | ⟨x, h⟩
  · obtain ⟨o', e, k⟩ := k _ h
    rcases k with rfl | ⟨u', du', h1, h2⟩
    · exact .inl e
    · have eu : u = u' := by
        rcases h1 with e | ⟨x, rfl⟩
        · exact e
        · exact du.elim
      subst eu
      rcases h2 with rfl | ⟨y, rfl⟩
      · exact .inl e
      · exact .inr ⟨y, e⟩
  · obtain ⟨o', e, k⟩ := k _ h
    rcases k with rfl | ⟨u', du', h1, h2⟩
    · exact .inr ⟨x, e⟩
    · have eu : u = u' := by
        rcases h1 with rfl | ⟨z, e⟩
        · exact du'.elim
        · injection e
      subst eu
      rcases h2 with rfl | ⟨y, rfl⟩
      · exact .inl e
      · exact .inr ⟨y, e⟩
theorem rd_lst {H H' : Hp} {a : Addr} {xs : List V} (k : ∀ o, H a = some o → ∃ o', H' a = some o' ∧ Keeps o o') (h : Rd H a (.lst xs)) : Rd H' a (.lst xs) := by
  rcases h with h | ⟨x, h⟩
  · obtain ⟨o', e, k⟩ := k _ h
    rw [k.lst] at e
    exact .inl e
  · obtain ⟨o', e, k⟩ := k _ h
    rw [k.flst] at e
    exact .inr ⟨x, e⟩
/-- from (M, H) to (M', H'): what is not protected stays as it is -/
structure Mv (M : Prot) (H : Hp) (M' : Prot) (H' : Hp) : Prop where
  pr : ∀ b, M' b → M b ∨ H b = none
  st : ∀ b o, ¬ M b → H b = some o → ∃ o', H' b = some o' ∧ Keeps o o'

section
variable {P : Program} {w : World} {K : Frag} {M M' : Prot} {H H' : Hp}
theorem Mv.refl : Mv M H M H := ⟨fun _ h => .inl h, fun _ o _ h => ⟨o, h, .refl o⟩⟩
theorem Mv.nm (m : Mv M H M' H') {a : Addr} {u : HO} (h : ¬ M a) (e : H a = some u) : ¬ M' a := fun z => by
  rcases m.pr a z with q | q
  · exact h q
  · rw [q] at e; cases e
theorem Mv.tn (m : Mv M H M' H') {a : Addr} {xs : List V} (h : TN K M H a xs) : TN K M' H' a xs := by
  rcases h with ⟨nm, ob, e, d⟩ | h
  · obtain ⟨o', e', k⟩ := m.st a _ nm e
    rw [k.tup] at e'
    exact .inl ⟨m.nm nm e, ob, e', d⟩
  · exact .inr h
theorem rd_some {a : Addr} {u : HO} (h : Rd H a u) : ∃ o, H a = some o := by
  rcases h with h | ⟨x, h⟩
  · exact ⟨_, h⟩
  · exact ⟨_, h⟩
theorem Mv.nmr (m : Mv M H M' H') {a : Addr} {u : HO} (h : ¬ M a) (e : Rd H a u) : ¬ M' a := by
  obtain ⟨o, e⟩ := rd_some e
  exact m.nm h e
theorem Mv.dn (m : Mv M H M' H') {a : Addr} {es : List (D × V)} (nm : ¬ M a) (h : DN P w K M H a es) : ¬ M' a ∧ DN P w K M' H' a es := by
  rcases h with ⟨kvs, r, e⟩ | ⟨xs, vs, r, rv, t, e⟩
  · exact ⟨m.nmr nm r, .inl ⟨kvs, Keeps.rd (by trivial) (fun o q => m.st a o nm q) r, e⟩⟩
  · exact ⟨m.nmr nm r, .inr ⟨xs, vs, Keeps.rd (by trivial) (fun o q => m.st a o nm q) r, rv, fun x hx => m.tn (t x hx), e⟩⟩
mutual
theorem Cl.mv (m : Mv M H M' H') : ∀ {d : D} {v : V}, Cl P w K M H d v → Cl P w K M' H' d v
  | .none, _, h => h
  | .bool _, _, h => h
  | .int _, _, h => h
  | .str _, _, h => h
  | .tuple _, _, ⟨a, xs, e, t, c⟩ => ⟨a, xs, e, m.tn t, ClA.mv m c⟩
  | .list _, _, ⟨a, xs, e, nm, r, c⟩ => ⟨a, xs, e, m.nmr nm r, rd_lst (fun o q => m.st a o nm q) r, ClA.mv m c⟩
  | .dict _, _, ⟨a, es, e, nm, r, c⟩ => ⟨a, es, e, (m.dn nm r).1, (m.dn nm r).2, ClP.mv m c⟩
theorem ClA.mv (m : Mv M H M' H') : ∀ {ds : List D} {vs : List V}, ClA P w K M H ds vs → ClA P w K M' H' ds vs
  | [], _, h => h
  | _ :: _, _, ⟨v, r, e, c, cs⟩ => ⟨v, r, e, Cl.mv m c, ClA.mv m cs⟩
theorem ClP.mv (m : Mv M H M' H') : ∀ {ps : List (D × D)} {es : List (D × V)}, ClP P w K M H ps es → ClP P w K M' H' ps es
  | [], _, h => h
  | _ :: _, _, ⟨v, r, e, c, cs⟩ => ⟨v, r, e, ClPr.mv m c, ClP.mv m cs⟩
theorem ClPr.mv (m : Mv M H M' H') : ∀ {p : D × D} {e : D × V}, ClPr P w K M H p e → ClPr P w K M' H' p e
  | (_, _), _, ⟨h1, h2⟩ => ⟨h1, Cl.mv m h2⟩
end
theorem TN.sq {a : Addr} {xs : List V} (h : TN K M H a xs) : SqT K H a xs := by
  rcases h with ⟨_, ob, e, _⟩ | h
  · exact .inl (.inr ⟨ob, e⟩)
  · exact .inr h
theorem Cl.sh : ∀ {d : D} {v : V}, Cl P w K M H d v → Sh P w K M H d v
  | .none, _, h => h
  | .bool _, _, h => h
  | .int _, _, h => h
  | .str _, _, h => h
  | .tuple _, _, ⟨a, xs, e, t, c⟩ => ⟨a, xs, e, t, c⟩
  | .list _, _, ⟨a, xs, e, nm, r, c⟩ => ⟨a, xs, e, r, c⟩
  | .dict _, _, ⟨a, es, e, nm, r, c⟩ => ⟨a, es, e, r, c⟩
theorem Co.sh : ∀ {d : D} {a : Addr}, Co P w K M H d a → Sh P w K M H d (.ref a)
  | .list _, a, ⟨xs, e, c⟩ => ⟨a, xs, rfl, .inl e, c⟩
  | .dict _, a, ⟨es, r, c⟩ => ⟨a, es, rfl, (by
      rcases r with ⟨kvs, r, e⟩ | ⟨xs, vs, r, q⟩
      · exact .inl ⟨kvs, .inl r, e⟩
      · exact .inr ⟨xs, vs, .inl r, q⟩), c⟩
  | .none, _, h => h.elim
  | .bool _, _, h => h.elim
  | .int _, _, h => h.elim
  | .str _, _, h => h.elim
  | .tuple _, _, h => h.elim
theorem Co.dom : ∀ {d : D} {a : Addr}, Co P w K M H d a → ∃ o, H a = some o
  | .list _, a, ⟨xs, e, c⟩ => ⟨_, e⟩
  | .dict _, a, ⟨es, r, c⟩ => by
      rcases r with ⟨kvs, r, e⟩ | ⟨xs, vs, r, q⟩
      · exact ⟨_, r⟩
      · exact ⟨_, r⟩
  | .none, _, h => h.elim
  | .bool _, _, h => h.elim
  | .int _, _, h => h.elim
  | .str _, _, h => h.elim
  | .tuple _, _, h => h.elim
theorem Co.mv (m : Mv M H M' H') : ∀ {d : D} {a : Addr}, Co P w K M H d a → (∀ o, H a = some o → H' a = some o) → Co P w K M' H' d a
  | .list _, a, ⟨xs, e, c⟩, k => ⟨xs, k _ e, c.mv m⟩
  | .dict _, a, ⟨es, r, c⟩, k => ⟨es, (by
      rcases r with ⟨kvs, r, e⟩ | ⟨xs, vs, r, rv, t, e⟩
      · exact .inl ⟨kvs, k _ r, e⟩
      · exact .inr ⟨xs, vs, k _ r, rv, fun x hx => m.tn (t x hx), e⟩), c.mv m⟩
  | .none, _, h, _ => h.elim
  | .bool _, _, h, _ => h.elim
  | .int _, _, h, _ => h.elim
  | .str _, _, h, _ => h.elim
  | .tuple _, _, h, _ => h.elim
theorem ClA.length : ∀ {ds : List D} {vs : List V}, ClA P w K M H ds vs → vs.length = ds.length
  | [], _, h => by rw [show _ = [] from h]; rfl
  | _ :: _, _, ⟨v, r, e, c, cs⟩ => by rw [e, List.length_cons, List.length_cons, ClA.length cs]
theorem ClA.nil : ClA P w K M H [] [] := rfl
theorem ClA.cons {d : D} {v : V} {ds : List D} {vs : List V} (h : Cl P w K M H d v) (t : ClA P w K M H ds vs) : ClA P w K M H (d :: ds) (v :: vs) := ⟨v, vs, rfl, h, t⟩
theorem ClA.append : ∀ {ds es : List D} {vs us : List V}, ClA P w K M H ds vs → ClA P w K M H es us → ClA P w K M H (ds ++ es) (vs ++ us)
  | [], _, _, _, h, h' => by rw [show _ = [] from h]; exact h'
  | _ :: _, _, _, _, ⟨v, r, e, c, cs⟩, h' => by rw [e]; exact ⟨v, _, rfl, c, ClA.append cs h'⟩
theorem ClA.get : ∀ {ds : List D} {vs : List V} {i : Nat} {d : D}, ClA P w K M H ds vs → ds[i]? = some d → ∃ v, vs[i]? = some v ∧ Cl P w K M H d v
  | [], _, _, _, _, e => by simp at e
  | d :: _, _, 0, _, ⟨v, r, ev, c, cs⟩, e => by
    simp at e; subst e; subst ev; exact ⟨v, rfl, c⟩
  | _ :: _, _, i + 1, _, ⟨v, r, ev, c, cs⟩, e => by
    subst ev
    obtain ⟨u, h1, h2⟩ := ClA.get (i := i) cs (by simpa using e)
    exact ⟨u, by simpa using h1, h2⟩
theorem ClA.take : ∀ {ds : List D} {vs : List V} (n : Nat), ClA P w K M H ds vs → ClA P w K M H (ds.take n) (vs.take n)
  | _, _, 0, _ => by simp [ClA.nil]
  | [], _, n + 1, h => by rw [show _ = [] from h]; rfl
  | _ :: _, _, n + 1, ⟨v, r, e, c, cs⟩ => by rw [e]; exact ⟨v, _, rfl, c, ClA.take n cs⟩
theorem ClA.drop : ∀ {ds : List D} {vs : List V} (n : Nat), ClA P w K M H ds vs → ClA P w K M H (ds.drop n) (vs.drop n)
  | _, _, 0, h => h
  | [], _, n + 1, h => by rw [show _ = [] from h]; rfl
  | _ :: _, _, n + 1, ⟨v, r, e, c, cs⟩ => by rw [e]; exact ClA.drop n cs
theorem ClA.set : ∀ {ds : List D} {vs : List V} {d : D} {v : V} (i : Nat), ClA P w K M H ds vs → Cl P w K M H d v → ClA P w K M H (ds.set i d) (vs.set i v)
  | [], _, _, _, _, h, _ => by rw [show _ = [] from h]; rfl
  | _ :: _, _, _, _, 0, ⟨v, r, e, c, cs⟩, q => by rw [e]; exact ⟨_, _, rfl, q, cs⟩
  | _ :: _, _, _, _, i + 1, ⟨v, r, e, c, cs⟩, q => by rw [e]; exact ⟨_, _, rfl, c, ClA.set i cs q⟩
theorem ClA.reverse : ∀ {ds : List D} {vs : List V}, ClA P w K M H ds vs → ClA P w K M H ds.reverse vs.reverse
  | [], _, h => by rw [show _ = [] from h]; rfl
  | _ :: _, _, ⟨v, r, e, c, cs⟩ => by
    rw [e, List.reverse_cons, List.reverse_cons]
    exact ClA.append (ClA.reverse cs) ⟨v, [], rfl, c, rfl⟩
end

/-! ### slots -/
inductive Slot where
  | un
  | pu (d : D)
  | mu (own : Bool) (d : D)
abbrev En := List Slot
/-- an operand: data, or a slot's own list or dict (read when it is used) -/
inductive Opd where
  | cl (d : D)
  | sl (i : Nat)
def muO (ρ : En) (i : Nat) : Option D := match ρ[i]? with | some (.mu _ d) => some d | _ => none
/-- whether a slot is a list or dict of its own (true), of the caller's (false) -/
def moO (ρ : En) (i : Nat) : Option Bool := match ρ[i]? with | some (.mu o _) => some o | _ => none
def rdO (ρ : En) : Opd → Option D
  | .cl d => some d
  | .sl i => muO ρ i

section
variable (P : Program) (w : World) (K : Frag)
structure ER (W M : Prot) (ρ : En) (σ : L2.St) (H : Hp) : Prop where
  wm : ∀ a, W a → M a
  md : ∀ a, M a → ∃ o, H a = some o
  len : σ.length = ρ.length
  pu : ∀ (i : Nat) (d : D), ρ[i]? = some (.pu d) → ∃ v, σ[i]? = some (some v) ∧ Cl P w K M H d v
  mu : ∀ (i : Nat) (o : Bool) (d : D), ρ[i]? = some (.mu o d) → ∃ a, σ[i]? = some (some (.ref a)) ∧ W a ∧ Co P w K M H d a
  dj : ∀ (i j : Nat) (o o' : Bool) (d d' : D) (a : Addr), ρ[i]? = some (.mu o d) → ρ[j]? = some (.mu o' d') → σ[i]? = some (some (.ref a)) → σ[j]? = some (some (.ref a)) → i = j
/-- what an expression may change: the objects of slots -/
def Ext (W M : Prot) (H H' : Hp) : Prop := ∀ b o, H b = some o → ¬ W b → (∃ o', H' b = some o' ∧ Keeps o o') ∧ (M b → H' b = some o)
/-- the same slots are lists and dicts of their own -/
structure Shp (ρ ρ' : En) : Prop where
  len : ρ'.length = ρ.length
  mo : ∀ i, moO ρ i = moO ρ' i
  pu : ∀ (i : Nat) (d : D), ρ'[i]? = some (.pu d) → ρ[i]? = some (.pu d)
/-- an operand's value -/
def VO (M : Prot) (ρ : En) (σ : L2.St) (H : Hp) : Opd → V → Prop
  | .cl d, v => Cl P w K M H d v
  | .sl i, v => σ[i]? = some (some v) ∧ (moO ρ i).isSome = true
end
abbrev SemE := En → Option (Opd × En)
abbrev SemA := En → Option (List Opd × En)
abbrev SemT := En → Option (Bool × En)

section
variable {P : Program} {w : World} {K : Frag} {W M : Prot} {ρ ρ' ρ'' : En} {σ : L2.St} {H H' H'' : Hp}
theorem Ext.refl : Ext W M H H := fun b o h _ => ⟨⟨o, h, .refl o⟩, fun _ => h⟩
theorem Ext.trans (a : Ext W M H H') (b : Ext W M H' H'') : Ext W M H H'' := fun c o h nw => by
  obtain ⟨⟨o', e', k'⟩, m'⟩ := a c o h nw
  obtain ⟨⟨o'', e'', k''⟩, m''⟩ := b c o' e' nw
  refine ⟨⟨o'', e'', k'.trans k''⟩, fun hm => ?_⟩
  have e1 := m' hm
  rw [e1] at e'
  cases e'
  exact m'' hm
theorem Ext.mv (x : Ext W M H H') (wm : ∀ a, W a → M a) : Mv M H M H' := ⟨fun _ h => .inl h, fun b o nm h => (x b o h fun z => nm (wm b z)).1⟩
/-- the heap only grows -/
def Gr (H H' : Hp) : Prop := ∀ b o, H b = some o → H' b = some o
theorem Gr.refl : Gr H H := fun _ _ h => h
theorem Gr.trans (a : Gr H H') (b : Gr H' H'') : Gr H H'' := fun c o h => b c o (a c o h)
theorem Gr.ext (g : Gr H H') : Ext W M H H' := fun b o h _ => ⟨⟨o, g b o h, .refl o⟩, fun _ => g b o h⟩
theorem Gr.mv (g : Gr H H') : Mv M H M H' := ⟨fun _ h => .inl h, fun b o _ h => ⟨o, g b o h, .refl o⟩⟩
theorem Gr.upd {p : Addr} {o : HO} (h : H p = none) : Gr H (upd H p o) := fun b u e => by
  rw [upd_ne (ne_of_none e h)]
  exact e
theorem ER.gr (e : ER P w K W M ρ σ H) (g : Gr H H') : ER P w K W M ρ σ H' :=
  ⟨e.wm, fun a h => let ⟨o, q⟩ := e.md a h; ⟨o, g a o q⟩, e.len, fun i d h => let ⟨v, h1, h2⟩ := e.pu i d h; ⟨v, h1, h2.mv g.mv⟩,
    fun i o d h => let ⟨a, h1, h2, h3⟩ := e.mu i o d h; ⟨a, h1, h2, Co.mv g.mv h3 (g a)⟩, e.dj⟩
/-- a new object, protected from now on -/
theorem ER.frs {a : Addr} (e : ER P w K W M ρ σ H) (g : Gr H H') (n : H a = none) (s : ∃ o, H' a = some o) : ER P w K W (fun b => M b ∨ b = a) ρ σ H' where
  wm := fun b h => .inl (e.wm b h)
  md := fun b h => h.elim (fun h => let ⟨o, q⟩ := e.md b h; ⟨o, g b o q⟩) fun h => h ▸ s
  len := e.len
  pu := fun i d h => let ⟨v, h1, h2⟩ := e.pu i d h; ⟨v, h1, h2.mv ⟨fun b h => h.elim .inl fun z => .inr (z ▸ n), fun b u _ h => ⟨u, g b u h, .refl u⟩⟩⟩
  mu := fun i o d h => let ⟨a, h1, h2, h3⟩ := e.mu i o d h; ⟨a, h1, h2, Co.mv ⟨fun b h => h.elim .inl fun z => .inr (z ▸ n), fun b u _ h => ⟨u, g b u h, .refl u⟩⟩ h3 (g a)⟩
  dj := e.dj
theorem ER.shr {a : Addr} (e : ER P w K W (fun b => M b ∨ b = a) ρ σ H) (hw : ∀ b, W b → M b) : ER P w K W M ρ σ H where
  wm := hw
  md := fun b h => e.md b (.inl h)
  len := e.len
  pu := fun i d h => let ⟨v, h1, h2⟩ := e.pu i d h; ⟨v, h1, h2.mv ⟨fun b h => .inl (.inl h), fun b u _ h => ⟨u, h, .refl u⟩⟩⟩
  mu := fun i o d h => let ⟨a, h1, h2, h3⟩ := e.mu i o d h; ⟨a, h1, h2, Co.mv ⟨fun b h => .inl (.inl h), fun b u _ h => ⟨u, h, .refl u⟩⟩ h3 fun _ h => h⟩
  dj := e.dj
theorem Shp.refl : Shp ρ ρ := ⟨rfl, fun _ => rfl, fun _ _ h => h⟩
theorem Shp.trans (a : Shp ρ ρ') (b : Shp ρ' ρ'') : Shp ρ ρ'' := ⟨b.1.trans a.1, fun i => (a.2 i).trans (b.2 i), fun i d h => a.3 i d (b.3 i d h)⟩
theorem VO.mv {o : Opd} {v : V} (h : VO P w K M ρ σ H o v) (m : Mv M H M H') (s : Shp ρ ρ') : VO P w K M ρ' σ H' o v := by
  cases o with
  | cl d => exact Cl.mv m h
  | sl i => exact ⟨h.1, (s.2 i) ▸ h.2⟩
/-- an operand as it is read -/
theorem VO.sh {o : Opd} {v : V} {d : D} (h : VO P w K M ρ σ H o v) (e : ER P w K W M ρ σ H) (r : rdO ρ o = some d) : Sh P w K M H d v := by
  cases o with
  | cl d' =>
    cases r
    exact Cl.sh h
  | sl i =>
    obtain ⟨h1, h2⟩ := h
    have r : muO ρ i = some d := r
    unfold muO at r
    split at r
    · rename_i o d' q
      cases r
      obtain ⟨a, q1, q2, q3⟩ := e.mu i _ _ q
      rw [h1] at q1
      cases q1
      exact Co.sh q3
    · cases r
end
/-- the reading of an expression that computes by f -/
def tX (P : Program) (w : World) (K : Frag) (f : SemE) : TE := fun σ H Q => ∃ W M ρ, ER P w K W M ρ σ H ∧ ∃ o ρ', f ρ = some (o, ρ') ∧
  ∀ v H', ER P w K W M ρ' σ H' → Ext W M H H' → Shp ρ ρ' → VO P w K M ρ' σ H' o v → Q v H'
def tXA (P : Program) (w : World) (K : Frag) (f : SemA) : TA := fun σ H Q => ∃ W M ρ, ER P w K W M ρ σ H ∧ ∃ os ρ', f ρ = some (os, ρ') ∧
  ∀ vs H', ER P w K W M ρ' σ H' → Ext W M H H' → Shp ρ ρ' → Paired (VO P w K M ρ' σ H') os vs → Q vs H'
def tXT (P : Program) (w : World) (K : Frag) (f : SemT) : TT := fun σ H Q => ∃ W M ρ, ER P w K W M ρ σ H ∧ ∃ b ρ', f ρ = some (b, ρ') ∧
  ∀ H', ER P w K W M ρ' σ H' → Ext W M H H' → Shp ρ ρ' → Q b H'
abbrev tx (X : Cx) (f : SemE) : TE := tX X.prog X.w X.K f
abbrev txa (X : Cx) (f : SemA) : TA := tXA X.prog X.w X.K f
abbrev txt (X : Cx) (f : SemT) : TT := tXT X.prog X.w X.K f
theorem PE.wk {X : Cx} {e : Expr} {t t' : TE} (h : PE X e t) (i : ∀ σ H Q, t' σ H Q → t σ H Q) : PE X e t' := ⟨fun pins s σ H Q I q => h.run pins s σ H Q I (i σ H Q q)⟩
theorem PT.wk {X : Cx} {e : Expr} {t t' : TT} (h : PT X e t) (i : ∀ σ H Q, t' σ H Q → t σ H Q) : PT X e t' := ⟨fun pins s σ H Q I q => h.run pins s σ H Q I (i σ H Q q)⟩
theorem PW.wk {X : Cx} {e : Expr} {t t' : TT} (h : PW X e t) (i : ∀ σ H Q, t' σ H Q → t σ H Q) : PW X e t' := ⟨fun wh pins s σ H Q I q => h.run wh pins s σ H Q I (i σ H Q q)⟩
theorem PA.wk {X : Cx} {e : List Expr} {t t' : TA} (h : PA X e t) (i : ∀ σ H Q, t' σ H Q → t σ H Q) : PA X e t' := ⟨fun pos pins s σ H Q I q => h.run pos pins s σ H Q I (i σ H Q q)⟩
end PX

namespace PX
open PySem PySem.Spec PyProof.Rows L2

theorem bnd {α β : Type} {x : Option α} {f : α → Option β} {y : β} (h : x.bind f = some y) : ∃ a, x = some a ∧ f a = some y := by
  cases x with
  | none => cases h
  | some a => exact ⟨a, rfl, h⟩
def clO : Opd → Option D
  | .cl d => some d
  | .sl _ => none
def clA : List Opd → Option (List D)
  | [] => some []
  | o :: os => (clO o).bind fun d => (clA os).bind fun ds => some (d :: ds)
def rdA (ρ : En) : List Opd → Option (List D)
  | [] => some []
  | o :: os => (rdO ρ o).bind fun d => (rdA ρ os).bind fun ds => some (d :: ds)
/-- at most so many items -/
def fit {α : Type} (n : Nat) (x : Option α) : Option α := if n ≤ sizeLine then x else none
theorem fit_some {α : Type} {n : Nat} {x : Option α} {y : α} (h : fit n x = some y) : n ≤ sizeLine ∧ x = some y := by
  unfold fit at h
  split at h
  · exact ⟨by assumption, h⟩
  · cases h
theorem fit_pos {α : Type} {n : Nat} {x : Option α} (h : n ≤ sizeLine) : fit n x = x := if_pos h

section
variable {P : Program} {w : World} {K : Frag} {W M : Prot} {ρ ρ' ρ1 ρ2 : En} {σ : L2.St} {H H' H1 H2 : Hp} {o : Opd} {os : List Opd} {v : V} {vs : List V} {d : D} {ds : List D}
theorem VO.clean {o : Opd} {v : V} {d : D} (h : VO P w K M ρ σ H o v) (e : clO o = some d) : Cl P w K M H d v := by
  cases o with
  | cl d' => cases e; exact h
  | sl i => cases e
theorem vo_clA : ∀ {os : List Opd} {vs : List V} {ds : List D}, Paired (VO P w K M ρ σ H) os vs → clA os = some ds → ClA P w K M H ds vs
  | [], _, _, .nil, e => by cases e; rfl
  | o :: os, _, _, .cons h t, e => by
    obtain ⟨d, e1, e⟩ := bnd e
    obtain ⟨ds, e2, e⟩ := bnd e
    cases e
    exact ⟨_, _, rfl, h.clean e1, vo_clA t e2⟩
abbrev ShA (P : Program) (w : World) (K : Frag) (M : Prot) (H : Hp) : List D → List V → Prop := Paired (Sh P w K M H)
theorem vo_shA (er : ER P w K W M ρ σ H) : ∀ {os : List Opd} {vs : List V} {ds : List D}, Paired (VO P w K M ρ σ H) os vs → rdA ρ os = some ds → ShA P w K M H ds vs
  | [], _, _, .nil, e => by cases e; exact .nil
  | o :: os, _, _, .cons h t, e => by
    obtain ⟨d, e1, e⟩ := bnd e
    obtain ⟨ds, e2, e⟩ := bnd e
    cases e
    exact .cons (h.sh er e1) (vo_shA er t e2)
theorem vo_mvA (m : Mv M H M H') (s : Shp ρ ρ') : ∀ {os : List Opd} {vs : List V}, Paired (VO P w K M ρ σ H) os vs → Paired (VO P w K M ρ' σ H') os vs
  | _, _, .nil => .nil
  | _, _, .cons h t => .cons (h.mv m s) (vo_mvA m s t)
theorem cl_vos : ∀ {ds : List D} {vs : List V}, ClA P w K M H ds vs → Paired (VO P w K M ρ σ H) (ds.map Opd.cl) vs
  | [], _, h => by rw [show _ = [] from h]; exact .nil
  | _ :: _, _, ⟨v, r, e, c, cs⟩ => by rw [e]; exact .cons c (cl_vos cs)
theorem paired_app {α β : Type} {R : α → β → Prop} : ∀ {xs xs' : List α} {ys ys' : List β}, Paired R xs ys → Paired R xs' ys' → Paired R (xs ++ xs') (ys ++ ys')
  | _, _, _, _, .nil, h => h
  | _, _, _, _, .cons a t, h => .cons a (paired_app t h)
theorem ext_none (x : Ext W M H H') (er : ER P w K W M ρ σ H') {p : Addr} (h : H' p = none) : H p = none := by
  cases q : H p with
  | none => rfl
  | some u =>
    exfalso
    by_cases hw : W p
    · obtain ⟨o, e⟩ := er.md p (er.wm p hw)
      rw [h] at e; cases e
    · obtain ⟨⟨o', e, _⟩, _⟩ := x p u q hw
      rw [h] at e; cases e
theorem nm_fresh (er : ER P w K W M ρ σ H) {p : Addr} (h : H p = none) : ¬ M p := fun z => by
  obtain ⟨o, e⟩ := er.md p z
  rw [h] at e; cases e
end

/-! ### names, constants -/
def sVar (i : Nat) : SemE := fun ρ => match ρ[i]? with
  | some (.pu d) => some (.cl d, ρ)
  | some (.mu _ _) => some (.sl i, ρ)
  | _ => none
def sC (d : D) : SemE := fun ρ => some (.cl d, ρ)
section
variable {X : Cx} {e a b c : Expr} {es : List Expr} {f g h : SemE} {pos : Pos}
theorem px_var {i : Nat} {x : Str} (hN : X.N[i]? = some x) (hv : Vis X.env.scope x) (hd : (x == ("__debug__" : Str)) = false := by decide) (hcd : (x == ("__classdict__" : Str)) = false := by decide) : PE X (.Name x pos) (tx X (sVar i)) :=
  PE.wk (pe_var hN hv hd hcd) fun σ H Q ⟨W, M, ρ, er, o, ρ', e, k⟩ => by
    unfold sVar at e
    split at e
    · rename_i d q
      cases e
      obtain ⟨v, e1, e2⟩ := er.pu i d q
      exact ⟨v, e1, k v H er .refl .refl e2⟩
    · rename_i ow d q
      cases e
      obtain ⟨a, e1, e2, e3⟩ := er.mu i ow d q
      exact ⟨.ref a, e1, k _ H er .refl .refl ⟨e1, by unfold moO; rw [q] <;> rfl⟩⟩
    · cases e
theorem px_c {t : V} {d : D} (hp : PE X e (tC t)) (hc : ∀ (M : Prot) (H : Hp), Cl X.prog X.w X.K M H d t) : PE X e (tx X (sC d)) :=
  PE.wk hp fun σ H Q ⟨W, M, ρ, er, o, ρ', e, k⟩ => by
    cases e
    exact k _ H er .refl .refl (hc M H)
theorem px_int {i : Int} {j : Nat} : PE X (.Constant (.int i) j pos) (tx X (sC (.int i))) := px_c pe_int fun _ _ => rfl
theorem px_bool {i : Bool} {j : Nat} : PE X (.Constant (.bool i) j pos) (tx X (sC (.bool i))) := px_c pe_bl fun _ _ => rfl
theorem px_none {j : Nat} : PE X (.Constant .none j pos) (tx X (sC .none)) := px_c pe_non fun _ _ => rfl
theorem px_str {x : Str} {j : Nat} : PE X (.Constant (.str x) j pos) (tx X (sC (.str x))) := px_c pe_str fun _ _ => rfl
theorem px_globI {x : Str} {i : Int} {t : Tok} (hg : Gl X x) (hm : X.mg x = some (.int i t)) (hd : (x == ("__debug__" : Str)) = false := by decide) : PE X (.Name x pos) (tx X (sC (.int i))) :=
  px_c (pe_glob (v := .int i) hg hm ⟨t, rfl⟩ hd) fun _ _ => rfl

/-! ### operators by values -/
def OpD (X : Cx) (f : Value → Value → Sem Value) (g : D → D → Option D) : Prop :=
  ∀ (pins : List (Addr × Obj)) (s : Shared) (σ : L2.St) (H : Hp) (M : Prot) (x y : V) (v u : Value) (dx dy dz : D) (Q : VK), Inv X pins σ H s → (∀ a, M a → ∃ o, H a = some o) → RelV x v → RelV y u →
    Sh X.prog X.w X.K M H dx x → Sh X.prog X.w X.K M H dy y → g dx dy = some dz → (∀ z H', Gr H H' → Cl X.prog X.w X.K M H' dz z → Q z H') → wpAny (model X.prog X.w) X.A (f v u) (EP X pins σ Q) X.xe s
def rD (X : Cx) (g : D → D → Option D) : R2 := fun x y H Q => ∃ (M : Prot) (dx dy dz : D), (∀ a, M a → ∃ o, H a = some o) ∧ Sh X.prog X.w X.K M H dx x ∧ Sh X.prog X.w X.K M H dy y ∧ g dx dy = some dz ∧
  ∀ z H', Gr H H' → Cl X.prog X.w X.K M H' dz z → Q z H'
theorem OpD.op {f : Value → Value → Sem Value} {g : D → D → Option D} (h : OpD X f g) : OpR X f (rD X g) :=
  fun pins s σ H x y v u Q I rx ry ⟨M, dx, dy, dz, hM, hx, hy, e, k⟩ => h pins s σ H M x y v u dx dy dz Q I hM rx ry hx hy e k
def sBin (g : D → D → Option D) (f1 f2 : SemE) : SemE := fun ρ => (f1 ρ).bind fun r1 => (f2 r1.2).bind fun r2 => (rdO r2.2 r1.1).bind fun x => (rdO r2.2 r2.1).bind fun y => (g x y).bind fun z => some (.cl z, r2.2)
theorem bin_wk {gg : D → D → Option D} {σ : L2.St} {H : Hp} {Q : VK} (q : tx X (sBin gg f g) σ H Q) : tOp (rD X gg) (tx X f) (tx X g) σ H Q := by
  obtain ⟨W, M, ρ, er, o, ρ', e, k⟩ := q
  obtain ⟨⟨o1, ρ1⟩, e1, e⟩ := bnd e
  obtain ⟨⟨o2, ρ2⟩, e2, e⟩ := bnd e
  obtain ⟨x, ex, e⟩ := bnd e
  obtain ⟨y, ey, e⟩ := bnd e
  obtain ⟨z, ez, e⟩ := bnd e
  cases e
  refine ⟨W, M, ρ, er, o1, ρ1, e1, fun v H1 er1 x1 s1 v1 => ⟨W, M, ρ1, er1, o2, ρ2, e2, fun u H2 er2 x2 s2 v2 => ⟨M, x, y, z, er2.md, (v1.mv (x2.mv er.wm) s2).sh er2 ex, v2.sh er2 ey, ez, fun z' H3 g cz => ?_⟩⟩⟩
  exact k z' H3 (er2.gr g) ((x1.trans x2).trans g.ext) (s1.trans s2) cz
theorem px_bin {op : Operator} {gg : D → D → Option D} (ho : OpD X (binaryOp op) gg) (ha : PE X a (tx X f)) (hb : PE X b (tx X g)) : PE X (.BinOp a op b pos) (tx X (sBin gg f g)) :=
  PE.wk (pe_op ho.op ha hb) fun σ H Q q => bin_wk q
theorem px_cmp {op : CmpOp} {gg : D → D → Option D} (ho : OpD X (compareOp op) gg) (ha : PE X a (tx X f)) (hb : PE X b (tx X g)) (hm : behindInMarks op b = false) : PE X (.Compare a [op] [b] pos) (tx X (sBin gg f g)) :=
  PE.wk (pe_cmpR ho.op ha hb hm) fun σ H Q q => bin_wk q
/-- an expression that gives a truth value, as a test -/
def sTst (f : SemE) : SemT := fun ρ => (f ρ).bind fun r => match r.1 with | .cl (.bool b) => some (b, r.2) | _ => none
theorem tst_wk {t : TE} {σ : L2.St} {H : Hp} {Q : Bool → Hp → Prop} (q : txt X (sTst f) σ H Q) (h : ∀ σ H (Q : VK), tx X f σ H Q → t σ H Q) : t σ H fun x H1 => ∃ c, x = .bl c ∧ Q c H1 := by
  obtain ⟨W, M, ρ, er, o, ρ', e, k⟩ := q
  obtain ⟨⟨o1, ρ1⟩, e1, e⟩ := bnd e
  refine h _ _ _ ⟨W, M, ρ, er, o1, ρ1, e1, fun v H1 er1 x1 s1 v1 => ?_⟩
  dsimp only at e
  split at e
  · cases e
    exact ⟨_, v1, k H1 er1 x1 s1⟩
  · cases e
theorem px_tcmp {op : CmpOp} {gg : D → D → Option D} (ho : OpD X (compareOp op) gg) (ha : PE X a (tx X f)) (hb : PE X b (tx X g)) (hm : behindInMarks op b = false) : PT X (.Compare a [op] [b] pos) (txt X (sTst (sBin gg f g))) :=
  PT.wk (pt_cmpR ho.op ha hb hm) fun σ H Q q => tst_wk q fun σ H Q q => bin_wk q
theorem px_tval (ha : PE X e (tx X f)) (he : ∀ whole, isTrue e X.env whole = (do let v ← whole; standAt e.pos; holding [v] (truthy v)) := by intro _; rfl) : PT X e (txt X (sTst f)) :=
  PT.wk (pt_val ha he) fun σ H Q q => tst_wk q fun σ H Q q => q
/-- a op b op' c -/
def sChain (g1 g2 : D → D → Option D) (f1 f2 f3 : SemE) : SemE := fun ρ => (f1 ρ).bind fun r1 => (f2 r1.2).bind fun r2 => (rdO r2.2 r1.1).bind fun x => (rdO r2.2 r2.1).bind fun y => (g1 x y).bind fun z =>
  match z with
  | .bool true => (f3 r2.2).bind fun r3 => (rdO r3.2 r2.1).bind fun y' => (rdO r3.2 r3.1).bind fun w => (g2 y' w).bind fun z => some (.cl z, r3.2)
  | .bool false => some (.cl (.bool false), r2.2)
  | _ => none
theorem chain_wk {g1 g2 : D → D → Option D} {σ : L2.St} {H : Hp} {Q : VK} (q : tx X (sChain g1 g2 f g h) σ H Q) : tChain (rD X g1) (rD X g2) (tx X f) (tx X g) (tx X h) σ H Q := by
  obtain ⟨W, M, ρ, er, o, ρ', e, k⟩ := q
  obtain ⟨⟨o1, ρ1⟩, e1, e⟩ := bnd e
  obtain ⟨⟨o2, ρ2⟩, e2, e⟩ := bnd e
  obtain ⟨x, ex, e⟩ := bnd e
  obtain ⟨y, ey, e⟩ := bnd e
  obtain ⟨z, ez, e⟩ := bnd e
  refine ⟨W, M, ρ, er, o1, ρ1, e1, fun v H1 er1 x1 s1 v1 => ⟨W, M, ρ1, er1, o2, ρ2, e2, fun u H2 er2 x2 s2 v2 => ⟨M, x, y, z, er2.md, (v1.mv (x2.mv er.wm) s2).sh er2 ex, v2.sh er2 ey, ez, fun z' H3 gr cz => ?_⟩⟩⟩
  dsimp only at e
  have er3 := er2.gr gr
  have v3 := v2.mv (gr.mv (M := M)) (Shp.refl (ρ := ρ2))
  split at e
  · refine ⟨true, cz, ?_⟩
    rw [if_pos rfl]
    obtain ⟨⟨o3, ρ3⟩, e3, e⟩ := bnd e
    obtain ⟨y', ey', e⟩ := bnd e
    obtain ⟨w', ew, e⟩ := bnd e
    obtain ⟨z2, ez2, e⟩ := bnd e
    cases e
    refine ⟨W, M, ρ2, er3, o3, ρ3, e3, fun t H4 er4 x4 s4 v4 => ⟨M, y', w', z2, er4.md, (v3.mv (x4.mv er.wm) s4).sh er4 ey', v4.sh er4 ew, ez2, fun z3 H5 gr5 cz5 => ?_⟩⟩
    exact k z3 H5 (er4.gr gr5) ((((x1.trans x2).trans gr.ext).trans x4).trans gr5.ext) ((s1.trans s2).trans s4) cz5
  · refine ⟨false, cz, ?_⟩
    rw [if_neg Bool.false_ne_true]
    cases e
    exact k _ H3 er3 ((x1.trans x2).trans gr.ext) (s1.trans s2) rfl
  · cases e
theorem px_chain {op op' : CmpOp} {g1 g2 : D → D → Option D} (ho : OpD X (compareOp op) g1) (ho' : OpD X (compareOp op') g2) (ha : PE X a (tx X f)) (hb : PE X b (tx X g)) (hc : PE X c (tx X h))
    (hm : lastMarks [op, op'] [b, c] = false := by with_unfolding_all rfl) : PE X (.Compare a [op, op'] [b, c] pos) (tx X (sChain g1 g2 f g h)) :=
  PE.wk (pe_chain ho.op ho'.op ha hb hc hm) fun σ H Q q => chain_wk q
theorem px_tchain {op op' : CmpOp} {g1 g2 : D → D → Option D} (ho : OpD X (compareOp op) g1) (ho' : OpD X (compareOp op') g2) (ha : PE X a (tx X f)) (hb : PE X b (tx X g)) (hc : PE X c (tx X h))
    (hm : lastMarks [op, op'] [b, c] = false := by with_unfolding_all rfl) : PT X (.Compare a [op, op'] [b, c] pos) (txt X (sTst (sChain g1 g2 f g h))) :=
  PT.wk (pt_chain ho.op ho'.op ha hb hc hm) fun σ H Q q => tst_wk q fun σ H Q q => chain_wk q
/-- one-place operators -/
def UnD (X : Cx) (f : Value → Sem Value) (g : D → Option D) : Prop :=
  ∀ (pins : List (Addr × Obj)) (s : Shared) (σ : L2.St) (H : Hp) (M : Prot) (x : V) (v : Value) (dx dz : D) (Q : VK), Inv X pins σ H s → (∀ a, M a → ∃ o, H a = some o) → RelV x v →
    Sh X.prog X.w X.K M H dx x → g dx = some dz → (∀ z H', Gr H H' → Cl X.prog X.w X.K M H' dz z → Q z H') → wpAny (model X.prog X.w) X.A (f v) (EP X pins σ Q) X.xe s
def sUn (g : D → Option D) (f : SemE) : SemE := fun ρ => (f ρ).bind fun r => (rdO r.2 r.1).bind fun x => (g x).bind fun z => some (.cl z, r.2)
theorem px_un {op : UnaryOp} {gg : D → Option D} (ho : UnD X (unaryOp op) gg) (ha : PE X a (tx X f)) : PE X (.UnaryOp op a pos) (tx X (sUn gg f)) :=
  PE.wk (pe_un (r := fun x H Q => ∃ (M : Prot) (dx dz : D), (∀ a, M a → ∃ o, H a = some o) ∧ Sh X.prog X.w X.K M H dx x ∧ gg dx = some dz ∧ ∀ z H', Gr H H' → Cl X.prog X.w X.K M H' dz z → Q z H')
    (fun pins s σ H x v Q I rx ⟨M, dx, dz, hM, hx, e, k⟩ => ho pins s σ H M x v dx dz Q I hM rx hx e k) ha) fun σ H Q q => by
    obtain ⟨W, M, ρ, er, o, ρ', e, k⟩ := q
    obtain ⟨⟨o1, ρ1⟩, e1, e⟩ := bnd e
    obtain ⟨x, ex, e⟩ := bnd e
    obtain ⟨z, ez, e⟩ := bnd e
    cases e
    exact ⟨W, M, ρ, er, o1, ρ1, e1, fun v H1 er1 x1 s1 v1 => ⟨M, x, z, er1.md, v1.sh er1 ex, ez, fun z' H3 g cz => k z' H3 (er1.gr g) (x1.trans g.ext) s1 cz⟩⟩

/-! ### and, or, not, if -/
def sAnd (f g : SemE) : SemE := fun ρ => (f ρ).bind fun r => match r.1 with | .cl (.bool true) => g r.2 | .cl (.bool false) => some (.cl (.bool false), r.2) | _ => none
def sOr (f g : SemE) : SemE := fun ρ => (f ρ).bind fun r => match r.1 with | .cl (.bool false) => g r.2 | .cl (.bool true) => some (.cl (.bool true), r.2) | _ => none
def sNot (f : SemE) : SemE := fun ρ => (f ρ).bind fun r => match r.1 with | .cl (.bool b) => some (.cl (.bool (!b)), r.2) | _ => none
def sTAnd (f g : SemT) : SemT := fun ρ => (f ρ).bind fun r => if r.1 = true then g r.2 else some (false, r.2)
def sTOr (f g : SemT) : SemT := fun ρ => (f ρ).bind fun r => if r.1 = true then some (true, r.2) else g r.2
def sTNot (f : SemT) : SemT := fun ρ => (f ρ).bind fun r => some (!r.1, r.2)
def sIf (t : SemT) (f g : SemE) : SemE := fun ρ => (t ρ).bind fun r => if r.1 = true then f r.2 else g r.2
variable {rest : List Expr} {t u : SemT}
theorem px_one {op : BoolOp} (ha : PE X a (tx X f)) : PE X (.BoolOp op [a] pos) (tx X f) := pe_one ha
theorem px_and (ha : PE X a (tx X f)) (hb : PE X (.BoolOp .And (b :: rest) pos) (tx X g)) : PE X (.BoolOp .And (a :: b :: rest) pos) (tx X (sAnd f g)) :=
  PE.wk (pe_and ha hb) fun σ H Q ⟨W, M, ρ, er, o, ρ', e, k⟩ => by
    obtain ⟨⟨o1, ρ1⟩, e1, e⟩ := bnd e
    refine ⟨W, M, ρ, er, o1, ρ1, e1, fun v H1 er1 x1 s1 v1 => ?_⟩
    dsimp only at e
    split at e
    · exact ⟨true, v1, by rw [if_pos rfl]; exact ⟨W, M, ρ1, er1, o, ρ', e, fun v H2 er2 x2 s2 v2 => k v H2 er2 (x1.trans x2) (s1.trans s2) v2⟩⟩
    · cases e
      exact ⟨false, v1, by rw [if_neg Bool.false_ne_true]; exact k _ H1 er1 x1 s1 rfl⟩
    · cases e
theorem px_or (ha : PE X a (tx X f)) (hb : PE X (.BoolOp .Or (b :: rest) pos) (tx X g)) : PE X (.BoolOp .Or (a :: b :: rest) pos) (tx X (sOr f g)) :=
  PE.wk (pe_or ha hb) fun σ H Q ⟨W, M, ρ, er, o, ρ', e, k⟩ => by
    obtain ⟨⟨o1, ρ1⟩, e1, e⟩ := bnd e
    refine ⟨W, M, ρ, er, o1, ρ1, e1, fun v H1 er1 x1 s1 v1 => ?_⟩
    dsimp only at e
    split at e
    · exact ⟨false, v1, by rw [if_neg Bool.false_ne_true]; exact ⟨W, M, ρ1, er1, o, ρ', e, fun v H2 er2 x2 s2 v2 => k v H2 er2 (x1.trans x2) (s1.trans s2) v2⟩⟩
    · cases e
      exact ⟨true, v1, by rw [if_pos rfl]; exact k _ H1 er1 x1 s1 rfl⟩
    · cases e
theorem px_not (ha : PE X a (tx X f)) : PE X (.UnaryOp .Not a pos) (tx X (sNot f)) :=
  PE.wk (pe_not ha) fun σ H Q ⟨W, M, ρ, er, o, ρ', e, k⟩ => by
    obtain ⟨⟨o1, ρ1⟩, e1, e⟩ := bnd e
    refine ⟨W, M, ρ, er, o1, ρ1, e1, fun v H1 er1 x1 s1 v1 => ?_⟩
    dsimp only at e
    split at e
    · cases e
      exact ⟨_, v1, k _ H1 er1 x1 s1 rfl⟩
    · cases e
theorem px_tand1 (ha : PT X a (txt X t)) : PW X (.BoolOp .And [a] pos) (txt X t) := pw_and1 ha
theorem px_tor1 (ha : PT X a (txt X t)) : PW X (.BoolOp .Or [a] pos) (txt X t) := pw_or1 ha
theorem px_tand (ha : PT X a (txt X t)) (hb : PW X (.BoolOp .And (b :: rest) pos) (txt X u)) : PW X (.BoolOp .And (a :: b :: rest) pos) (txt X (sTAnd t u)) :=
  PW.wk (pw_and ha hb) fun σ H Q ⟨W, M, ρ, er, o, ρ', e, k⟩ => by
    obtain ⟨⟨o1, ρ1⟩, e1, e⟩ := bnd e
    refine ⟨W, M, ρ, er, o1, ρ1, e1, fun H1 er1 x1 s1 => ?_⟩
    dsimp only at e
    cases o1 with
    | true => rw [if_pos rfl] at e ⊢; exact ⟨W, M, ρ1, er1, o, ρ', e, fun H2 er2 x2 s2 => k H2 er2 (x1.trans x2) (s1.trans s2)⟩
    | false => rw [if_neg Bool.false_ne_true] at e ⊢; cases e; exact k H1 er1 x1 s1
theorem px_tor (ha : PT X a (txt X t)) (hb : PW X (.BoolOp .Or (b :: rest) pos) (txt X u)) : PW X (.BoolOp .Or (a :: b :: rest) pos) (txt X (sTOr t u)) :=
  PW.wk (pw_or ha hb) fun σ H Q ⟨W, M, ρ, er, o, ρ', e, k⟩ => by
    obtain ⟨⟨o1, ρ1⟩, e1, e⟩ := bnd e
    refine ⟨W, M, ρ, er, o1, ρ1, e1, fun H1 er1 x1 s1 => ?_⟩
    dsimp only at e
    cases o1 with
    | false => rw [if_neg Bool.false_ne_true] at e ⊢; exact ⟨W, M, ρ1, er1, o, ρ', e, fun H2 er2 x2 s2 => k H2 er2 (x1.trans x2) (s1.trans s2)⟩
    | true => rw [if_pos rfl] at e ⊢; cases e; exact k H1 er1 x1 s1
theorem px_tnot (ha : PT X a (txt X t)) : PT X (.UnaryOp .Not a pos) (txt X (sTNot t)) :=
  PT.wk (pt_not ha) fun σ H Q ⟨W, M, ρ, er, o, ρ', e, k⟩ => by
    obtain ⟨⟨o1, ρ1⟩, e1, e⟩ := bnd e
    cases e
    exact ⟨W, M, ρ, er, o1, ρ1, e1, fun H1 er1 x1 s1 => k H1 er1 x1 s1⟩
theorem px_if {c : Expr} (hc : PT X c (txt X t)) (ha : PE X a (tx X f)) (hb : PE X b (tx X g)) : PE X (.IfExp c a b pos) (tx X (sIf t f g)) :=
  PE.wk (pe_ifExp hc ha hb) fun σ H Q ⟨W, M, ρ, er, o, ρ', e, k⟩ => by
    obtain ⟨⟨o1, ρ1⟩, e1, e⟩ := bnd e
    refine ⟨W, M, ρ, er, o1, ρ1, e1, fun H1 er1 x1 s1 => ?_⟩
    dsimp only at e
    cases o1 with
    | true => rw [if_pos rfl] at e ⊢; exact ⟨W, M, ρ1, er1, o, ρ', e, fun v H2 er2 x2 s2 v2 => k v H2 er2 (x1.trans x2) (s1.trans s2) v2⟩
    | false => rw [if_neg Bool.false_ne_true] at e ⊢; exact ⟨W, M, ρ1, er1, o, ρ', e, fun v H2 er2 x2 s2 v2 => k v H2 er2 (x1.trans x2) (s1.trans s2) v2⟩
/-- is None, is not None -/
def isN : D → Option D := fun d => match d with | .none => some (.bool true) | .dict _ => some (.bool false) | _ => some (.bool false)
def isNot : D → Option D := fun d => match d with | .none => some (.bool false) | _ => some (.bool true)
def noneD : D → Bool
  | .none => true
  | _ => false
theorem sh_non {P : Program} {w : World} {K : Frag} {M : Prot} {H : Hp} {d : D} {v : V} (h : Sh P w K M H d v) : decide (v = .non) = noneD d := by
  cases d with
  | none => rw [show v = .non from h]; rfl
  | bool b => rw [show v = .bl b from h]; rfl
  | int b => rw [show v = .int b from h]; rfl
  | str b => rw [show v = .str b from h]; rfl
  | list xs => obtain ⟨a, _, e, _⟩ := h; rw [e]; rfl
  | tuple xs => obtain ⟨a, _, e, _⟩ := h; rw [e]; rfl
  | dict xs => obtain ⟨a, _, e, _⟩ := h; rw [e]; rfl
theorem px_isN {j : Nat} {pos' : Pos} (ha : PE X a (tx X f)) : PE X (.Compare a [.Is] [.Constant .none j pos'] pos) (tx X (sUn isN f)) :=
  PE.wk (pe_cmp (pc_isN ha) (nomark _)) fun σ H Q ⟨W, M, ρ, er, o, ρ', e, k⟩ => by
    obtain ⟨⟨o1, ρ1⟩, e1, e⟩ := bnd e
    obtain ⟨x, ex, e⟩ := bnd e
    obtain ⟨z, ez, e⟩ := bnd e
    cases e
    refine ⟨W, M, ρ, er, o1, ρ1, e1, fun v H1 er1 x1 s1 v1 => k _ H1 er1 x1 s1 ?_⟩
    rw [sh_non (v1.sh er1 ex)]
    cases x <;> (cases ez; rfl)
theorem px_isNot {j : Nat} {pos' : Pos} (ha : PE X a (tx X f)) : PE X (.Compare a [.IsNot] [.Constant .none j pos'] pos) (tx X (sUn isNot f)) :=
  PE.wk (pe_cmp (pc_notN ha) (nomark _)) fun σ H Q ⟨W, M, ρ, er, o, ρ', e, k⟩ => by
    obtain ⟨⟨o1, ρ1⟩, e1, e⟩ := bnd e
    obtain ⟨x, ex, e⟩ := bnd e
    obtain ⟨z, ez, e⟩ := bnd e
    cases e
    refine ⟨W, M, ρ, er, o1, ρ1, e1, fun v H1 er1 x1 s1 v1 => k _ H1 er1 x1 s1 ?_⟩
    rw [sh_non (v1.sh er1 ex)]
    cases x <;> (cases ez; rfl)
theorem px_tisN {j : Nat} {pos' : Pos} (ha : PE X a (tx X f)) : PT X (.Compare a [.Is] [.Constant .none j pos'] pos) (txt X (sTst (sUn isN f))) :=
  PT.wk (pt_cmp (pc_isN ha) (nomark _)) fun σ H Q q => tst_wk q fun σ H Q ⟨W, M, ρ, er, o, ρ', e, k⟩ => by
    obtain ⟨⟨o1, ρ1⟩, e1, e⟩ := bnd e
    obtain ⟨x, ex, e⟩ := bnd e
    obtain ⟨z, ez, e⟩ := bnd e
    cases e
    refine ⟨W, M, ρ, er, o1, ρ1, e1, fun v H1 er1 x1 s1 v1 => k _ H1 er1 x1 s1 ?_⟩
    rw [sh_non (v1.sh er1 ex)]
    cases x <;> (cases ez; rfl)
theorem px_tisNot {j : Nat} {pos' : Pos} (ha : PE X a (tx X f)) : PT X (.Compare a [.IsNot] [.Constant .none j pos'] pos) (txt X (sTst (sUn isNot f))) :=
  PT.wk (pt_cmp (pc_notN ha) (nomark _)) fun σ H Q q => tst_wk q fun σ H Q ⟨W, M, ρ, er, o, ρ', e, k⟩ => by
    obtain ⟨⟨o1, ρ1⟩, e1, e⟩ := bnd e
    obtain ⟨x, ex, e⟩ := bnd e
    obtain ⟨z, ez, e⟩ := bnd e
    cases e
    refine ⟨W, M, ρ, er, o1, ρ1, e1, fun v H1 er1 x1 s1 v1 => k _ H1 er1 x1 s1 ?_⟩
    rw [sh_non (v1.sh er1 ex)]
    cases x <;> (cases ez; rfl)

/-! ### argument lists, displays -/
def sNil : SemA := fun ρ => some ([], ρ)
def sCons (f : SemE) (g : SemA) : SemA := fun ρ => (f ρ).bind fun r1 => (g r1.2).bind fun r2 => some (r1.1 :: r2.1, r2.2)
def itemsD : D → Option (List D)
  | .tuple ds => some ds
  | .list ds => some ds
  | _ => none
def sStar (f : SemE) (g : SemA) : SemA := fun ρ => (f ρ).bind fun r1 => (rdO r1.2 r1.1).bind fun d => (itemsD d).bind fun ds => (g r1.2).bind fun r2 => some (ds.map Opd.cl ++ r2.1, r2.2)
variable {fa : SemA}
theorem px_nil : PA X [] (txa X sNil) := PA.wk pa_nil fun σ H Q ⟨W, M, ρ, er, o, ρ', e, k⟩ => by
  cases e
  exact k [] H er .refl .refl .nil
theorem px_cons (ha : PE X e (tx X f)) (hr : PA X es (txa X fa)) (hs : starEach (e :: es) X.env = (false, eval e X.env) :: starEach es X.env := by rfl) : PA X (e :: es) (txa X (sCons f fa)) :=
  PA.wk (pa_cons ha hr hs) fun σ H Q ⟨W, M, ρ, er, o, ρ', e, k⟩ => by
    obtain ⟨⟨o1, ρ1⟩, e1, e⟩ := bnd e
    obtain ⟨⟨os, ρ2⟩, e2, e⟩ := bnd e
    cases e
    exact ⟨W, M, ρ, er, o1, ρ1, e1, fun v H1 er1 x1 s1 v1 => ⟨W, M, ρ1, er1, os, ρ2, e2, fun vs H2 er2 x2 s2 v2 => k _ H2 er2 (x1.trans x2) (s1.trans s2) (.cons (v1.mv (x2.mv er.wm) s2) v2)⟩⟩
theorem px_star {p : Pos} (ha : PE X e (tx X f)) (hr : PA X es (txa X fa)) (hs : starEach (.Starred e p :: es) X.env = (true, eval e X.env) :: starEach es X.env := by rfl) : PA X (.Starred e p :: es) (txa X (sStar f fa)) :=
  PA.wk (StX.pa_star ha hr hs) fun σ H Q ⟨W, M, ρ, er, o, ρ', e, k⟩ => by
    obtain ⟨⟨o1, ρ1⟩, e1, e⟩ := bnd e
    obtain ⟨d, ed, e⟩ := bnd e
    obtain ⟨ds, eds, e⟩ := bnd e
    obtain ⟨⟨os, ρ2⟩, e2, e⟩ := bnd e
    cases e
    refine ⟨W, M, ρ, er, o1, ρ1, e1, fun v H1 er1 x1 s1 v1 => ?_⟩
    have sh := v1.sh er1 ed
    have fin : ∀ (a : Addr) (xs : List V), ClA X.prog X.w X.K M H1 ds xs → txa X fa σ H1 fun ys H2 => Q (xs ++ ys) H2 := fun a xs c => ⟨W, M, ρ1, er1, os, ρ2, e2, fun vs H2 er2 x2 s2 v2 =>
      k _ H2 er2 (x1.trans x2) (s1.trans s2) (paired_app (cl_vos (c.mv (x2.mv er.wm))) v2)⟩
    cases d with
    | tuple ds' => cases eds; obtain ⟨a, xs, e, q, c⟩ := sh; exact ⟨a, xs, e, .inl q.sq, fin a xs c⟩
    | list ds' => cases eds; obtain ⟨a, xs, e, q, c⟩ := sh; exact ⟨a, xs, e, .inr (.inl q), fin a xs c⟩
    | _ => cases eds
/-- a tuple display; its object has no dict -/
theorem pe_tupF {t : TA} {x1 : Nat} (h : PA X es t) : PE X (.Tuple es x1 pos) (fun σ H Q => t σ H fun xs H1 => xs.length ≤ sizeLine ∧ ∀ p ob, H1 p = none → ob.dict = none → Q (.ref p) (upd H1 p (.frz ob (.tup xs)))) := by
  refine ⟨fun pins s σ H Q I hq => ?_⟩
  refine wpAny_Tuple_spliced (thn (h.run pos pins s σ H _ I hq) fun us s1 ⟨xs, H1, I1, r, z, q⟩ => ⟨by rw [← r.length]; exact z, ?_⟩)
  have hf : H1 s1.heap.objs.size = none := I1.hok.fresh (Nat.le_refl _)
  refine ⟨.ref s1.heap.objs.size, upd H1 s1.heap.objs.size (.frz _ (.tup xs)), I1.laid (t' := s1.toks) (fun b u e => Heap.get?_push_of_some _ e) (Nat.le_refl _) ?_, rfl, q _ { cls := .type "tuple", data := .seq us.toArray } hf rfl⟩
  exact ⟨Heap.get?_push_size _ rfl, z, us, r, ⟨_, Heap.get?_push_size _ rfl, rfl, _, rfl⟩⟩
def sTup (f : SemA) : SemE := fun ρ => (f ρ).bind fun r => (clA r.1).bind fun ds => fit ds.length (some (.cl (.tuple ds), r.2))
theorem cl_tupF {P : Program} {w : World} {K : Frag} {M : Prot} {H : Hp} {p : Addr} {ob : Obj} {xs : List V} {ds : List D} (hM : ∀ a, M a → ∃ o, H a = some o) (n : H p = none) (d : ob.dict = none) (c : ClA P w K M H ds xs) :
    Cl P w K M (upd H p (.frz ob (.tup xs))) (.tuple ds) (.ref p) :=
  ⟨p, xs, rfl, .inl ⟨fun z => (by obtain ⟨o, e⟩ := hM p z; rw [n] at e; cases e), ob, upd_same, d⟩, c.mv (Gr.upd n).mv⟩
theorem px_tup {x1 : Nat} (h : PA X es (txa X fa)) : PE X (.Tuple es x1 pos) (tx X (sTup fa)) :=
  PE.wk (pe_tupF h) fun σ H Q ⟨W, M, ρ, er, o, ρ', e, k⟩ => by
    obtain ⟨⟨os, ρ1⟩, e1, e⟩ := bnd e
    obtain ⟨ds, e2, e⟩ := bnd e
    obtain ⟨z, e⟩ := fit_some e
    cases e
    refine ⟨W, M, ρ, er, os, ρ1, e1, fun vs H1 er1 x1 s1 v1 => ?_⟩
    have c := vo_clA v1 e2
    refine ⟨by rw [c.length]; exact z, fun p ob n dn => ?_⟩
    exact k _ _ (er1.gr (Gr.upd n)) (x1.trans (Gr.upd n).ext) s1 (cl_tupF er1.md n dn c)
/-- the reading of an expression that makes a list or a dict of its own -/
def tO (P : Program) (w : World) (K : Frag) (f : SemE) : TE := fun σ H Q => ∃ W M ρ, ER P w K W M ρ σ H ∧ ∃ d ρ', f ρ = some (.cl d, ρ') ∧
  ∀ a H', ER P w K W (fun b => M b ∨ b = a) ρ' σ H' → Ext W M H H' → Shp ρ ρ' → H a = none → ¬ M a → Co P w K (fun b => M b ∨ b = a) H' d a → Q (.ref a) H'
abbrev txo (X : Cx) (f : SemE) : TE := tO X.prog X.w X.K f
def noSl (f : SemE) : Prop := ∀ ρ o ρ', f ρ = some (o, ρ') → ∃ d, o = .cl d
theorem co_cl {P : Program} {w : World} {K : Frag} {M : Prot} {H : Hp} {a : Addr} (nm : ¬ M a) : ∀ {d : D}, Co P w K (fun b => M b ∨ b = a) H d a → Cl P w K M H d (.ref a)
  | .list _, ⟨xs, e, c⟩ => ⟨a, xs, rfl, nm, .inl e, c.mv ⟨fun b h => .inl (.inl h), fun b o _ h => ⟨o, h, .refl o⟩⟩⟩
  | .dict _, ⟨es, r, c⟩ => ⟨a, es, rfl, nm, (by
      rcases r with ⟨kvs, r, e⟩ | ⟨xs, vs, r, rv, t, e⟩
      · exact .inl ⟨kvs, .inl r, e⟩
      · exact .inr ⟨xs, vs, .inl r, rv, fun x hx => Mv.tn ⟨fun b h => .inl (.inl h), fun b o _ h => ⟨o, h, .refl o⟩⟩ (t x hx), e⟩), c.mv ⟨fun b h => .inl (.inl h), fun b o _ h => ⟨o, h, .refl o⟩⟩⟩
  | .none, h => h.elim
  | .bool _, h => h.elim
  | .int _, h => h.elim
  | .str _, h => h.elim
  | .tuple _, h => h.elim
theorem px_ofO (n : noSl f) (h : PE X e (txo X f)) : PE X e (tx X f) := PE.wk h fun σ H Q ⟨W, M, ρ, er, o, ρ', e, k⟩ => by
  obtain ⟨d, rfl⟩ := n _ _ _ e
  exact ⟨W, M, ρ, er, d, ρ', e, fun a H' er' x s _ nm c => k _ H' (er'.shr er.wm) x s (co_cl nm c)⟩
def sLst (f : SemA) : SemE := fun ρ => (f ρ).bind fun r => (clA r.1).bind fun ds => fit ds.length (some (.cl (.list ds), r.2))
theorem noSl_lst : noSl (sLst fa) := fun ρ o ρ' e => by
  obtain ⟨⟨os, ρ1⟩, e1, e⟩ := bnd e
  obtain ⟨ds, e2, e⟩ := bnd e
  obtain ⟨z, e⟩ := fit_some e
  cases e
  exact ⟨_, rfl⟩
theorem mv_fresh {M : Prot} {H : Hp} {p : Addr} {o : HO} (n : H p = none) : Mv M H (fun b => M b ∨ b = p) (upd H p o) :=
  ⟨fun b h => h.elim .inl fun e => .inr (e ▸ n), fun b u _ h => ⟨u, Gr.upd n b u h, .refl u⟩⟩
theorem px_lstO (h : PA X es (txa X fa)) : PE X (.List es pos) (txo X (sLst fa)) :=
  PE.wk (pe_lst h) fun σ H Q ⟨W, M, ρ, er, o, ρ', e, k⟩ => by
    obtain ⟨⟨os, ρ1⟩, e1, e⟩ := bnd e
    obtain ⟨ds, e2, e⟩ := bnd e
    obtain ⟨z, e⟩ := fit_some e
    cases e
    refine ⟨W, M, ρ, er, os, ρ1, e1, fun vs H1 er1 x1 s1 v1 => ?_⟩
    have c := vo_clA v1 e2
    refine ⟨by rw [c.length]; exact z, fun p n => ?_⟩
    exact k p _ (er1.frs (Gr.upd n) n ⟨_, upd_same⟩) (x1.trans (Gr.upd n).ext) s1 (ext_none x1 er1 n) (nm_fresh er1 n) ⟨vs, upd_same, c.mv (mv_fresh n)⟩
theorem px_lst (h : PA X es (txa X fa)) : PE X (.List es pos) (tx X (sLst fa)) := px_ofO noSl_lst (px_lstO h)
end
end PX

namespace PX
open PySem PySem.Spec PyProof.Rows L2

/-! ### what a value reads as -/
mutual
theorem clP_keys {P : Program} {w : World} {K : Frag} {M : Prot} {H : Hp} : ∀ {ps : List (D × D)} {es : List (D × V)}, ClP P w K M H ps es → es.map (·.1) = ps.map (·.1)
  | [], _, h => by rw [show _ = [] from h]; rfl
  | p :: _, _, ⟨v, q, e, c, cs⟩ => by
    subst e
    rw [List.map_cons, List.map_cons, clPr_keys c, clP_keys cs]
theorem clPr_keys {P : Program} {w : World} {K : Frag} {M : Prot} {H : Hp} : ∀ {p : D × D} {e : D × V}, ClPr P w K M H p e → e.1 = p.1
  | (_, _), _, ⟨h1, h2⟩ => h1
end
section
variable {X : Cx} {pins : List (Addr × Obj)} {σ : L2.St} {H : Hp} {s : Shared} {M : Prot}
theorem vals_cons {x : V} {xs : List V} {us : List Value} (r : Vals (x :: xs) us) : ∃ u ws, us = u :: ws ∧ RelV x u ∧ Vals xs ws := by
  cases r with
  | cons a b => exact ⟨_, _, rfl, a, b⟩
theorem tkey_reads (I : Inv X pins σ H s) : ∀ {ks : List Key} {us : List Value}, Vals (ks.map kV) us → ∃ as, ReadsAll s.heap us (ks.map kD) as
  | [], _, .nil => ⟨_, .nil⟩
  | k :: ks, _, r => by
    obtain ⟨u, ws, rfl, a, t⟩ := vals_cons r
    obtain ⟨as, h⟩ := tkey_reads I t
    cases k with
    | inl i => obtain ⟨t, rfl⟩ := a; exact ⟨_, .cons (.int i t) h⟩
    | inr i => obtain ⟨t, rfl⟩ := a; exact ⟨_, .cons (.str i t) h⟩
theorem pairs_keys {P : Program} {w : World} {h : Heap} : ∀ {es : List DictEntry} {kvs : List (Key × Value)}, Pairs (mixKind P w) es kvs → ∃ as, ReadsAll h (es.map (·.key)) (kvs.map fun p => kD p.1) as
  | _, _, .nil => ⟨_, .nil⟩
  | e :: es, kv :: kvs, .cons h1 h2 t => by
    obtain ⟨as, r⟩ := pairs_keys (h := h) t
    rcases keyIs_shape h1 with ⟨i, t, e1, e2⟩ | ⟨x, t, e1, e2⟩
    · have q : Reads h e.key (kD kv.1) [] := by
        rw [e1, e2]
        exact .int i t
      exact ⟨_, .cons q r⟩
    · have q : Reads h e.key (kD kv.1) [] := by
        rw [e1, e2]
        exact .str x t
      exact ⟨_, .cons q r⟩
theorem pairs_vals {P : Program} {w : World} : ∀ {es : List DictEntry} {kvs : List (Key × Value)}, Pairs (mixKind P w) es kvs → es.map (·.val) = kvs.map (·.2)
  | _, _, .nil => rfl
  | e :: es, kv :: kvs, .cons h1 h2 t => by rw [List.map_cons, List.map_cons, h2, pairs_vals t]
theorem kv_vals : ∀ {kvs : List (Key × V)} {vs : List (Key × Value)}, KV kvs vs → Vals (kvs.map (·.2)) (vs.map (·.2)) ∧ vs.map (·.1) = kvs.map (·.1)
  | _, _, .nil => ⟨.nil, rfl⟩
  | _, _, .cons ⟨a, b⟩ t => ⟨.cons b (kv_vals t).1, by rw [List.map_cons, List.map_cons, a, (kv_vals t).2]⟩
theorem TN.vals (I : Inv X pins σ H s) {a : Addr} {xs : List V} (h : TN X.K M H a xs) : ∃ its : List Value, Vals xs its ∧ IsTup s.heap a its.toArray ∧ xs.length ≤ sizeLine := I.tuple h.sq
theorem rd_list (I : Inv X pins σ H s) {a : Addr} {xs : List V} (h : Rd H a (.lst xs)) : ∃ its : List Value, Vals xs its ∧ PlainL s.heap a its.toArray ∧ xs.length ≤ sizeLine := I.list (.inl h)
theorem tkeys_reads (I : Inv X pins σ H s) : ∀ {xs : List TKey} {vs : List V}, vs.length = xs.length → (∀ x ∈ xs, TN X.K M H x.2.1 (x.1.map kV)) →
    ∃ as, ReadsAll s.heap ((xs.map (entryOfKey (tupleKind (mixKind X.prog X.w)))).map (·.key)) (((xs.zip vs).map fun p => (PyData.tuple (p.1.1.map kD), p.2)).map (·.1)) as
  | [], _, _, _ => ⟨_, .nil⟩
  | x :: xs, [], hl, _ => absurd hl (by simp)
  | x :: xs, v :: vs, hl, t => by
    obtain ⟨as, q⟩ := tkeys_reads I (xs := xs) (vs := vs) (by simpa using hl) (fun y hy => t y (List.mem_cons_of_mem _ hy))
    obtain ⟨its, r1, ⟨o, h1, h2, n, h3⟩, _⟩ := TN.vals I (t x List.mem_cons_self)
    obtain ⟨bs, q2⟩ := tkey_reads I r1
    have q2 : ReadsAll s.heap its.toArray.toList (x.1.map kD) bs := q2
    exact ⟨_, .cons (.tuple h1 h2 h3 q2) q⟩
/-- the raw entries of a dict -/
theorem dn_raw (I : Inv X pins σ H s) {a : Addr} {es : List (D × V)} (h : DN X.prog X.w X.K M H a es) :
    ∃ (o : Obj) (ets : Array DictEntry) (ep : Nat), s.heap.get? a = some o ∧ o.ExactDict ∧ o.data = .dict ets ep ∧ (∃ as, ReadsAll s.heap (ets.toList.map (·.key)) (es.map (·.1)) as) ∧ Vals (es.map (·.2)) (ets.toList.map (·.val)) ∧ es.length ≤ sizeLine ∧ (a == sysModules) = false := by
  rcases h with ⟨kvs, r, e⟩ | ⟨xs, vs, r, rv, t, e, _⟩
  · obtain ⟨z, hm, vs, kv, o, ets, ep, h1, h2, h3, _, h5, _⟩ := r.ok I.hok
    obtain ⟨q1, q2⟩ := kv_vals kv
    refine ⟨o, ets, ep, h1, h2, h3, ?_, ?_, ?_, hm⟩
    · obtain ⟨as, q⟩ := pairs_keys (h := s.heap) h5
      refine ⟨as, ?_⟩
      rw [e, List.map_map]
      have e2 : (vs.map fun p => kD p.1) = kvs.map ((·.1) ∘ fun p => (kD p.1, p.2)) := by
        rw [show (vs.map fun p => kD p.1) = (vs.map (·.1)).map kD by rw [List.map_map] <;> rfl, q2, List.map_map]
        rfl
      rw [← e2]
      exact q
    · rw [e, List.map_map, pairs_vals h5]
      exact q1
    · rw [e, List.length_map]
      exact z
  · obtain ⟨⟨z, hm, o, ets, ep, h1, h2, h3, h4, _⟩, _, _⟩ := r.ok I.hok
    have hl : vs.length = xs.length := by rw [rv.length, List.length_map]
    refine ⟨o, ets, ep, h1, h2, h3, ?_, ?_, ?_, hm⟩
    · rw [h4, e]
      exact tkeys_reads I hl t
    · rw [h4, e, List.map_map, List.map_map]
      have e2 : (xs.zip vs).map ((·.2) ∘ fun p => (PyData.tuple (p.1.1.map kD), p.2)) = vs := by
        show (xs.zip vs).map (·.2) = vs
        exact List.map_snd_zip (by omega)
      rw [e2]
      exact rv
    · rw [e, List.length_map, List.length_zip, hl, Nat.min_self]
      exact z
mutual
theorem cl_reads (I : Inv X pins σ H s) : ∀ {d : D} {v : V} {u : Value}, Cl X.prog X.w X.K M H d v → RelV v u → ∃ as, Reads s.heap u d as
  | .none, _, _, h, r => by subst h; cases r; exact ⟨_, .none⟩
  | .bool _, _, _, h, r => by subst h; cases r; exact ⟨_, .bool _⟩
  | .int _, _, _, h, r => by subst h; obtain ⟨t, rfl⟩ := r; exact ⟨_, .int _ t⟩
  | .str _, _, _, h, r => by subst h; obtain ⟨t, rfl⟩ := r; exact ⟨_, .str _ t⟩
  | .tuple _, _, _, ⟨a, xs, e, t, c⟩, r => by
    subst e; cases r
    obtain ⟨its, rv, ⟨o, h1, h2, n, h3⟩, _⟩ := TN.vals I t
    obtain ⟨as, q⟩ := clA_reads I c rv
    exact ⟨as, .tuple h1 h2 h3 q⟩
  | .list _, _, _, ⟨a, xs, e, nm, t, c⟩, r => by
    subst e; cases r
    obtain ⟨its, rv, ⟨o, n, h1, h2, _, h3⟩, _⟩ := rd_list I t
    obtain ⟨as, q⟩ := clA_reads I c rv
    exact ⟨_, .list h1 h2 h3 q⟩
  | .dict _, _, _, ⟨a, es, e, nm, t, c⟩, r => by
    subst e; cases r
    obtain ⟨o, ets, ep, h1, h2, h3, ⟨as, h4⟩, h5, _⟩ := dn_raw I t
    obtain ⟨bs, q⟩ := clP_reads I c h5
    exact ⟨_, .dict h1 h2.1 h3 (by rw [← clP_keys c]; exact h4) q⟩
theorem clA_reads (I : Inv X pins σ H s) : ∀ {ds : List D} {vs : List V} {us : List Value}, ClA X.prog X.w X.K M H ds vs → Vals vs us → ∃ as, ReadsAll s.heap us ds as
  | [], _, _, h, r => by rw [show _ = [] from h] at r; cases r; exact ⟨_, .nil⟩
  | _ :: _, _, _, ⟨v, q, e, c, cs⟩, r => by
    subst e
    obtain ⟨u, ws, rfl, a, t⟩ := vals_cons r
    obtain ⟨as, h1⟩ := cl_reads I c a
    obtain ⟨bs, h2⟩ := clA_reads I cs t
    exact ⟨_, .cons h1 h2⟩
theorem clP_reads (I : Inv X pins σ H s) : ∀ {ps : List (D × D)} {es : List (D × V)} {us : List Value}, ClP X.prog X.w X.K M H ps es → Vals (es.map (·.2)) us → ∃ as, ReadsAll s.heap us (ps.map (·.2)) as
  | [], _, _, h, r => by rw [show _ = [] from h] at r; cases r; exact ⟨_, .nil⟩
  | p :: _, _, _, ⟨v, q, e, c, cs⟩, r => by
    subst e
    obtain ⟨u, ws, rfl, a, t⟩ := vals_cons r
    obtain ⟨as, h1⟩ := clPr_reads I c a
    obtain ⟨bs, h2⟩ := clP_reads I cs t
    exact ⟨_, .cons h1 h2⟩
theorem clPr_reads (I : Inv X pins σ H s) : ∀ {p : D × D} {e : D × V} {u : Value}, ClPr X.prog X.w X.K M H p e → RelV e.2 u → ∃ as, Reads s.heap u p.2 as
  | (_, _), _, _, ⟨h1, h2⟩, r => cl_reads I h2 r
end
theorem sh_reads (I : Inv X pins σ H s) : ∀ {d : D} {v : V} {u : Value}, Sh X.prog X.w X.K M H d v → RelV v u → ∃ as, Reads s.heap u d as
  | .none, _, _, h, r => by subst h; cases r; exact ⟨_, .none⟩
  | .bool _, _, _, h, r => by subst h; cases r; exact ⟨_, .bool _⟩
  | .int _, _, _, h, r => by subst h; obtain ⟨t, rfl⟩ := r; exact ⟨_, .int _ t⟩
  | .str _, _, _, h, r => by subst h; obtain ⟨t, rfl⟩ := r; exact ⟨_, .str _ t⟩
  | .tuple _, _, _, ⟨a, xs, e, t, c⟩, r => by
    subst e; cases r
    obtain ⟨its, rv, ⟨o, h1, h2, n, h3⟩, _⟩ := TN.vals I t
    obtain ⟨as, q⟩ := clA_reads I c rv
    exact ⟨as, .tuple h1 h2 h3 q⟩
  | .list _, _, _, ⟨a, xs, e, t, c⟩, r => by
    subst e; cases r
    obtain ⟨its, rv, ⟨o, n, h1, h2, _, h3⟩, _⟩ := rd_list I t
    obtain ⟨as, q⟩ := clA_reads I c rv
    exact ⟨_, .list h1 h2 h3 q⟩
  | .dict _, _, _, ⟨a, es, e, t, c⟩, r => by
    subst e; cases r
    obtain ⟨o, ets, ep, h1, h2, h3, ⟨as, h4⟩, h5, _⟩ := dn_raw I t
    obtain ⟨bs, q⟩ := clP_reads I c h5
    exact ⟨_, .dict h1 h2.1 h3 (by rw [← clP_keys c]; exact h4) q⟩
end

/-! ### operators by values -/
def okD (d : D) : Bool := d.plain && decide (d.depth ≤ 64)
theorem okD_plain {d : D} (h : okD d = true) : d.plain = true ∧ d.depth ≤ 64 := by
  unfold okD at h
  rw [Bool.and_eq_true, decide_eq_true_eq] at h
  exact h
def dAdd : D → D → Option D
  | .int i, .int j => some (.int (i + j))
  | .list xs, .list ys => fit (xs.length + ys.length) (some (.list (xs ++ ys)))
  | .tuple xs, .tuple ys => fit (xs.length + ys.length) (some (.tuple (xs ++ ys)))
  | _, _ => none
def dSub : D → D → Option D
  | .int i, .int j => some (.int (i - j))
  | _, _ => none
def dMul : D → D → Option D
  | .int i, .int j => if i.natAbs.log2 + j.natAbs.log2 < 1000000 then some (.int (i * j)) else none
  | .tuple xs, .int j => if xs.length ≤ 1000 ∧ 0 < xs.length ∧ 1 ≤ j ∧ j ≤ 1000 then some (.tuple (List.replicate j.toNat xs).flatten) else none
  | .list xs, .int j => if xs.length ≤ 1000 ∧ 0 ≤ j ∧ j ≤ 1000 then some (.list (List.replicate j.toNat xs).flatten) else none
  | _, _ => none
def dDiv : D → D → Option D
  | .int i, .int j => if 0 < j ∧ j.natAbs.log2 < 9000 then some (.int (i / j)) else none
  | _, _ => none
def dMod : D → D → Option D
  | .int i, .int j => if 0 < j then some (.int (i % j)) else none
  | _, _ => none
def dPow : D → D → Option D
  | .int i, .int j => if 0 ≤ j ∧ j ≤ 1000000 ∧ i.natAbs < 2 ^ 64 then some (.int (i ^ j.toNat)) else none
  | _, _ => none
def dNeg : D → Option D
  | .int i => some (.int (-i))
  | _ => none
def dLt : D → D → Option D
  | .int i, .int j => some (.bool (decide (i < j)))
  | _, _ => none
def dLe : D → D → Option D
  | .int i, .int j => some (.bool (decide (i ≤ j)))
  | _, _ => none
def dGt : D → D → Option D
  | .int i, .int j => some (.bool (decide (j < i)))
  | _, _ => none
def dGe : D → D → Option D
  | .int i, .int j => some (.bool (decide (j ≤ i)))
  | _, _ => none
def dEq (x y : D) : Option D := if okD x && okD y then some (.bool (PyData.eqv x y)) else none
def dNe (x y : D) : Option D := if okD x && okD y then some (.bool (!PyData.eqv x y)) else none
section
variable {X : Cx}
theorem opD_of {f : Value → Value → Sem Value} {g : D → D → Option D} {r : R2} (h : OpR X f r)
    (k : ∀ (M : Prot) (H : Hp) (x y : V) (dx dy dz : D) (Q : VK), (∀ a, M a → ∃ o, H a = some o) → Sh X.prog X.w X.K M H dx x → Sh X.prog X.w X.K M H dy y → g dx dy = some dz →
      (∀ z H', Gr H H' → Cl X.prog X.w X.K M H' dz z → Q z H') → r x y H Q) : OpD X f g :=
  fun pins s σ H M x y v u dx dy dz Q I hM rx ry hx hy e q => h pins s σ H x y v u Q I rx ry (k M H x y dx dy dz Q hM hx hy e q)
/-- two ints to anything flat -/
theorem opD_int {f : Value → Value → Sem Value} {C : Int → Int → Prop} {g : Int → Int → V} {gd : D → D → Option D} (h : OpR X f (rI C g))
    (k : ∀ dx dy dz, gd dx dy = some dz → ∃ i j, dx = .int i ∧ dy = .int j ∧ C i j ∧ ∀ M H, Cl X.prog X.w X.K M H dz (g i j)) : OpD X f gd :=
  opD_of h fun M H x y dx dy dz Q hM hx hy e q => by
    obtain ⟨i, j, rfl, rfl, c, cl⟩ := k dx dy dz e
    exact ⟨i, j, hx, hy, c, q _ H .refl (cl M H)⟩
theorem opD_int0 {f : Value → Value → Sem Value} {g : Int → Int → V} {gd : D → D → Option D} (h : OpR X f (rI0 g))
    (k : ∀ dx dy dz, gd dx dy = some dz → ∃ i j, dx = .int i ∧ dy = .int j ∧ ∀ M H, Cl X.prog X.w X.K M H dz (g i j)) : OpD X f gd :=
  opD_of h fun M H x y dx dy dz Q hM hx hy e q => by
    obtain ⟨i, j, rfl, rfl, cl⟩ := k dx dy dz e
    exact ⟨i, j, hx, hy, q _ H .refl (cl M H)⟩
theorem od_sub : OpD X (binaryOp .Sub) dSub := opD_int0 op_sub fun dx dy dz e => by
  unfold dSub at e; split at e
  · cases e; exact ⟨_, _, rfl, rfl, fun _ _ => rfl⟩
  · cases e
theorem od_div : OpD X (binaryOp .FloorDiv) dDiv := opD_int op_fdivW fun dx dy dz e => by
  unfold dDiv at e; split at e
  · split at e
    · rename_i c
      cases e; exact ⟨_, _, rfl, rfl, c, fun _ _ => rfl⟩
    · cases e
  · cases e
theorem od_mod : OpD X (binaryOp .Mod) dMod := opD_int op_mod fun dx dy dz e => by
  unfold dMod at e; split at e
  · split at e
    · rename_i c
      cases e; exact ⟨_, _, rfl, rfl, c, fun _ _ => rfl⟩
    · cases e
  · cases e
theorem od_pow : OpD X (binaryOp .Pow) dPow := opD_int op_pow fun dx dy dz e => by
  unfold dPow at e; split at e
  · split at e
    · rename_i c
      cases e; exact ⟨_, _, rfl, rfl, c, fun _ _ => rfl⟩
    · cases e
  · cases e
theorem ud_neg : UnD X (unaryOp .USub) dNeg := fun pins s σ H M x v dx dz Q I hM rx hx e q => by
  unfold dNeg at e; split at e
  · rename_i i
    cases e
    exact un_neg pins s σ H x v Q I rx ⟨i, hx, q _ H .refl rfl⟩
  · cases e
theorem od_cmp {op : CmpOp} {p : Int → Int → Bool} {gd : D → D → Option D} (h : OpR X (compareOp op) (rI0 fun i j => .bl (p i j)))
    (k : ∀ dx dy dz, gd dx dy = some dz → ∃ i j, dx = .int i ∧ dy = .int j ∧ dz = .bool (p i j)) : OpD X (compareOp op) gd := opD_int0 h fun dx dy dz e => by
  obtain ⟨i, j, h1, h2, h3⟩ := k dx dy dz e
  exact ⟨i, j, h1, h2, fun _ _ => by subst h3; rfl⟩
theorem od_lt : OpD X (compareOp .Lt) dLt := od_cmp op_lt fun dx dy dz e => by
  unfold dLt at e; split at e
  · cases e; exact ⟨_, _, rfl, rfl, rfl⟩
  · cases e
theorem od_le : OpD X (compareOp .LtE) dLe := od_cmp op_le fun dx dy dz e => by
  unfold dLe at e; split at e
  · cases e; exact ⟨_, _, rfl, rfl, rfl⟩
  · cases e
theorem od_gt : OpD X (compareOp .Gt) dGt := od_cmp op_gt fun dx dy dz e => by
  unfold dGt at e; split at e
  · cases e; exact ⟨_, _, rfl, rfl, rfl⟩
  · cases e
theorem od_ge : OpD X (compareOp .GtE) dGe := od_cmp op_ge fun dx dy dz e => by
  unfold dGe at e; split at e
  · cases e; exact ⟨_, _, rfl, rfl, rfl⟩
  · cases e
/-- room for comparisons of data -/
abbrev HasRoom (X : Cx) : Prop := X.A.units + 100 < cLine
theorem od_eq (hu : HasRoom X) : OpD X (compareOp .Eq) dEq := fun pins s σ H M x y v u dx dy dz Q I hM rx ry hx hy e q => by
  unfold dEq at e; split at e
  · rename_i c
    rw [Bool.and_eq_true] at c
    obtain ⟨p1, p2⟩ := okD_plain c.1
    obtain ⟨p3, p4⟩ := okD_plain c.2
    cases e
    obtain ⟨as, r1⟩ := sh_reads I hx rx
    obtain ⟨bs, r2⟩ := sh_reads I hy ry
    exact PySem.SeqAt.eq_plain r1 r2 p1 p3 (by show X.A.units + _ < _; have : X.A.units + 100 < cLine := hu; omega) ⟨.bl _, H, I, rfl, q _ H .refl rfl⟩
  · cases e
theorem od_ne (hu : HasRoom X) : OpD X (compareOp .NotEq) dNe := fun pins s σ H M x y v u dx dy dz Q I hM rx ry hx hy e q => by
  unfold dNe at e; split at e
  · rename_i c
    rw [Bool.and_eq_true] at c
    obtain ⟨p1, p2⟩ := okD_plain c.1
    obtain ⟨p3, p4⟩ := okD_plain c.2
    cases e
    obtain ⟨as, r1⟩ := sh_reads I hx rx
    obtain ⟨bs, r2⟩ := sh_reads I hy ry
    exact PySem.SeqAt.ne_plain r1 r2 p1 p3 (by show X.A.units + _ < _; have : X.A.units + 100 < cLine := hu; omega) ⟨.bl _, H, I, rfl, q _ H .refl rfl⟩
  · cases e
end
end PX

namespace PX
open PySem PySem.Spec PyProof.Rows L2

section
variable {X : Cx} {pins : List (Addr × Obj)} {σ : L2.St} {H : Hp} {s : Shared} {M : Prot}
/-- a new tuple's object -/
def tupOb (its : List Value) : Obj := { cls := .type "tuple", data := .seq its.toArray }
theorem new_tup (I : Inv X pins σ H s) {xs : List V} {ds : List D} {its : List Value} {h' : Heap} {tk : Nat} {Q : VK} (hM : ∀ a, M a → ∃ o, H a = some o) (k : ∀ b u, s.heap.get? b = some u → h'.get? b = some u) (r : Vals xs its) (hz : xs.length ≤ sizeLine)
    (c : ClA X.prog X.w X.K M H ds xs) (q : ∀ z H', Gr H H' → Cl X.prog X.w X.K M H' (.tuple ds) z → Q z H') : EP X pins σ Q (.ref h'.objs.size) { s with heap := h'.push (tupOb its), toks := tk } := by
  have I1 : Inv X pins σ H { s with heap := h', toks := tk } := I.kept (t' := tk) k
  have hf : H h'.objs.size = none := I1.hok.fresh (Nat.le_refl _)
  have I2 : Inv X pins σ (upd H h'.objs.size (.frz (tupOb its) (.tup xs))) { s with heap := h'.push (tupOb its), toks := tk } :=
    I1.laid (t' := tk) (fun b u e => Heap.get?_push_of_some _ e) (Nat.le_refl _) ⟨Heap.get?_push_size _ rfl, hz, its, r, ⟨_, Heap.get?_push_size _ rfl, rfl, _, rfl⟩⟩
  exact ⟨.ref h'.objs.size, _, I2, rfl, q _ _ (Gr.upd hf) (cl_tupF hM hf rfl c)⟩
theorem new_lst (I : Inv X pins σ H s) {xs : List V} {ds : List D} {its : List Value} {n : Nat} {h' : Heap} {tk : Nat} {Q : VK} (hM : ∀ a, M a → ∃ o, H a = some o) (k : ∀ b u, s.heap.get? b = some u → h'.get? b = some u) (r : Vals xs its) (hz : xs.length ≤ sizeLine)
    (c : ClA X.prog X.w X.K M H ds xs) (q : ∀ a H', Gr H H' → H a = none → ¬ M a → Co X.prog X.w X.K (fun b => M b ∨ b = a) H' (.list ds) a → Q (.ref a) H') : EP X pins σ Q (.ref h'.objs.size) { s with heap := h'.push { cls := .type "list", data := .seq its.toArray n }, toks := tk } := by
  have I1 : Inv X pins σ H { s with heap := h', toks := tk } := I.kept (t' := tk) k
  have hf : H h'.objs.size = none := I1.hok.fresh (Nat.le_refl _)
  have I2 : Inv X pins σ (upd H h'.objs.size (.lst xs)) { s with heap := h'.push { cls := .type "list", data := .seq its.toArray n }, toks := tk } :=
    I1.laid (t' := tk) (fun b u e => Heap.get?_push_of_some _ e) (Nat.le_refl _) ⟨hz, its, n, r, Heap.get?_push_size _ rfl⟩
  exact ⟨.ref h'.objs.size, _, I2, rfl, q _ _ (Gr.upd hf) hf (fun z => by obtain ⟨o, e⟩ := hM _ z; rw [hf] at e; cases e) ⟨xs, upd_same, c.mv (mv_fresh hf)⟩⟩
theorem co_cl' {H' : Hp} {a : Addr} {d : D} (nm : ¬ M a) (c : Co X.prog X.w X.K (fun b => M b ∨ b = a) H' d a) : Cl X.prog X.w X.K M H' d (.ref a) := co_cl nm c

theorem rd_listE (I : Inv X pins σ H s) {a : Addr} {xs : List V} (h : Rd H a (.lst xs)) : ∃ (its : List Value) (n : Nat), Vals xs its ∧ s.heap.get? a = some { cls := .type "list", data := .seq its.toArray n } ∧ xs.length ≤ sizeLine := by
  obtain ⟨z, its, n, r, e⟩ := h.ok I.hok
  exact ⟨its, n, r, e, z⟩
/-! ### + -/
theorem od_add : OpD X (binaryOp .Add) dAdd := fun pins s σ H M x y v u dx dy dz Q I hM rx ry hx hy e q => by
  unfold dAdd at e
  split at e
  · cases e
    exact op_add pins s σ H x y v u Q I rx ry ⟨_, _, hx, hy, q _ H .refl rfl⟩
  · obtain ⟨z, e⟩ := fit_some e
    cases e
    obtain ⟨a, xs, rfl, ha, ca⟩ := hx
    obtain ⟨b, ys, rfl, hb, cb⟩ := hy
    cases rx
    cases ry
    obtain ⟨its, n, r1, p1, z1⟩ := rd_listE I ha
    obtain ⟨its2, n2, r2, p2, z2⟩ := rd_listE I hb
    have l1 := r1.length; have l2 := r2.length; have l3 := ca.length; have l4 := cb.length
    refine PySem.P.add_list p1 p2 ?_ (by rw [List.size_toArray, List.size_toArray]; omega)
    have ea : its.toArray ++ its2.toArray = (its ++ its2).toArray := by simp
    rw [ea]
    exact new_lst I (xs := xs ++ ys) (n := 0) (tk := s.toks) (h' := s.heap) hM (fun _ _ h => h) (r1.append r2) (by rw [List.length_append]; omega) (ca.append cb) fun a H' g _ nm c => q _ H' g (co_cl nm c)
  · rename_i ds es
    obtain ⟨z, e⟩ := fit_some e
    cases e
    obtain ⟨a, xs, rfl, ha, ca⟩ := hx
    obtain ⟨b, ys, rfl, hb, cb⟩ := hy
    cases rx
    cases ry
    obtain ⟨its, r1, p1, z1⟩ := TN.vals I ha
    obtain ⟨its2, r2, p2, z2⟩ := TN.vals I hb
    have l1 := r1.length; have l2 := r2.length; have l3 := ca.length; have l4 := cb.length
    by_cases hx : xs = []
    · subst hx
      cases r1
      cases ds with
      | cons _ _ => exact absurd l3 (by simp)
      | nil => exact cat_tup0 p1 p2 ⟨.ref b, H, I, rfl, q _ H .refl ⟨b, ys, rfl, hb, cb⟩⟩
    · refine HT.cat_tup p1 p2 (fun z => hx (r1.nil_iff.mp z)) (fun z => ?_) (fun z => ?_) (by rw [← r1.length, ← r2.length]; omega)
      · have hy : ys = [] := r2.nil_iff.mp z
        subst hy
        cases es with
        | cons _ _ => exact absurd l4 (by simp)
        | nil => exact ⟨.ref a, H, I, rfl, q _ H .refl ⟨a, xs, rfl, ha, by rw [List.append_nil]; exact ca⟩⟩
      · exact new_tup I (xs := xs ++ ys) (its := its ++ its2) (h' := s.heap) (tk := s.toks) hM (fun _ _ h => h) (r1.append r2) (by rw [List.length_append]; omega) (ca.append cb) q
  · cases e
end
end PX

namespace PX
open PySem PySem.Spec PyProof.Rows L2

/-! ### built-ins by values -/
def CallD (X : Cx) (f : Value) (g : List D → Option D) : Prop :=
  ∀ (pins : List (Addr × Obj)) (s : Shared) (σ : L2.St) (H : Hp) (M : Prot) (xs : List V) (us : List Value) (ds : List D) (dz : D) (Q : VK), Inv X pins σ H s → (∀ a, M a → ∃ o, H a = some o) → Vals xs us →
    ShA X.prog X.w X.K M H ds xs → g ds = some dz → (∀ z H', Gr H H' → Cl X.prog X.w X.K M H' dz z → Q z H') → wpAny (model X.prog X.w) X.A (call f us) (EP X pins σ Q) X.xe s
/-- .. that make a list or dict of their own -/
def CallO (X : Cx) (f : Value) (g : List D → Option D) : Prop :=
  ∀ (pins : List (Addr × Obj)) (s : Shared) (σ : L2.St) (H : Hp) (M : Prot) (xs : List V) (us : List Value) (ds : List D) (dz : D) (Q : VK), Inv X pins σ H s → (∀ a, M a → ∃ o, H a = some o) → Vals xs us →
    ShA X.prog X.w X.K M H ds xs → g ds = some dz → (∀ a H', Gr H H' → H a = none → ¬ M a → Co X.prog X.w X.K (fun b => M b ∨ b = a) H' dz a → Q (.ref a) H') → wpAny (model X.prog X.w) X.A (call f us) (EP X pins σ Q) X.xe s
theorem CallO.d {X : Cx} {f : Value} {g : List D → Option D} (h : CallO X f g) : CallD X f g := fun pins s σ H M xs us ds dz Q I hM r hx e q =>
  h pins s σ H M xs us ds dz Q I hM r hx e fun a H' g _ nm c => q _ H' g (co_cl nm c)
def sBlt (g : List D → Option D) (f : SemA) : SemE := fun ρ => (f ρ).bind fun r => (rdA r.2 r.1).bind fun ds => (g ds).bind fun z => some (.cl z, r.2)
theorem noSl_blt {g : List D → Option D} {f : SemA} : noSl (sBlt g f) := fun ρ o ρ' e => by
  obtain ⟨⟨os, ρ1⟩, e1, e⟩ := bnd e
  obtain ⟨ds, e2, e⟩ := bnd e
  obtain ⟨z, e3, e⟩ := bnd e
  cases e
  exact ⟨_, rfl⟩
section
variable {X : Cx} {e : Expr} {es : List Expr} {fa : SemA} {x : Str} {p pos : Pos} {id T : String} {g : List D → Option D}
def rCD (X : Cx) (g : List D → Option D) : List V → Hp → VK → Prop := fun xs H Q => ∃ (M : Prot) (ds : List D) (dz : D), (∀ a, M a → ∃ o, H a = some o) ∧ ShA X.prog X.w X.K M H ds xs ∧ g ds = some dz ∧ ∀ z H', Gr H H' → Cl X.prog X.w X.K M H' dz z → Q z H'
def rCO (X : Cx) (g : List D → Option D) : List V → Hp → VK → Prop := fun xs H Q => ∃ (M : Prot) (ds : List D) (dz : D), (∀ a, M a → ∃ o, H a = some o) ∧ ShA X.prog X.w X.K M H ds xs ∧ g ds = some dz ∧
  ∀ a H', Gr H H' → H a = none → ¬ M a → Co X.prog X.w X.K (fun b => M b ∨ b = a) H' dz a → Q (.ref a) H'
theorem CallD.r {f : Value} (h : CallD X f g) : CallR X f (rCD X g) := fun pins s σ H xs us Q I r ⟨M, ds, dz, hM, hx, e, q⟩ => h pins s σ H M xs us ds dz Q I hM r hx e q
theorem CallO.r {f : Value} (h : CallO X f g) : CallR X f (rCO X g) := fun pins s σ H xs us Q I r ⟨M, ds, dz, hM, hx, e, q⟩ => h pins s σ H M xs us ds dz Q I hM r hx e q
theorem blt_wk {σ : L2.St} {H : Hp} {Q : VK} (q : tx X (sBlt g fa) σ H Q) : tCB (rCD X g) (txa X fa) σ H Q := by
  obtain ⟨W, M, ρ, er, o, ρ', e, k⟩ := q
  obtain ⟨⟨os, ρ1⟩, e1, e⟩ := bnd e
  obtain ⟨ds, e2, e⟩ := bnd e
  obtain ⟨z, e3, e⟩ := bnd e
  cases e
  exact ⟨W, M, ρ, er, os, ρ1, e1, fun vs H1 er1 x1 s1 v1 => ⟨M, ds, z, er1.md, vo_shA er1 v1 e2, e3, fun z' H2 gr c => k z' H2 (er1.gr gr) (x1.trans gr.ext) s1 c⟩⟩
theorem bltO_wk {σ : L2.St} {H : Hp} {Q : VK} (q : txo X (sBlt g fa) σ H Q) : tCB (rCO X g) (txa X fa) σ H Q := by
  obtain ⟨W, M, ρ, er, o, ρ', e, k⟩ := q
  obtain ⟨⟨os, ρ1⟩, e1, e⟩ := bnd e
  obtain ⟨ds, e2, e⟩ := bnd e
  obtain ⟨z, e3, e⟩ := bnd e
  cases e
  exact ⟨W, M, ρ, er, os, ρ1, e1, fun vs H1 er1 x1 s1 v1 => ⟨M, ds, _, er1.md, vo_shA er1 v1 e2, e3, fun a H2 gr n nm c => k a H2 (er1.frs gr n (Co.dom c)) (x1.trans gr.ext) s1 (ext_none x1 er1 n) nm c⟩⟩
theorem px_blt (hc : CallD X (.builtin id) g) (hg : Gl X x) (hm : X.mg x = none) (hv : bootBuiltins x = some (.builtin id)) (ha : PA X (e :: es) (txa X fa)) (hn : x ≠ "__name__" := by decide) (hdb : (x == ("__debug__" : Str)) = false := by decide)
    (he : starEach (e :: es) X.env = (false, eval e X.env) :: starEach es X.env := by rfl) (hpl : (backTo pos (starEach es X.env)).any (·.1) = false := by rfl) : PE X (.Call (.Name x p) (e :: es) [] pos) (tx X (sBlt g fa)) :=
  PE.wk (pe_callB hc.r hg hm hv ha hn hdb he hpl) fun σ H Q q => blt_wk q
theorem px_ty (hc : CallD X (.type T) g) (hg : Gl X x) (hm : X.mg x = none) (hv : bootBuiltins x = some (.type T)) (ha : PA X (e :: es) (txa X fa)) (hn : x ≠ "__name__" := by decide) (hdb : (x == ("__debug__" : Str)) = false := by decide)
    (he : starEach (e :: es) X.env = (false, eval e X.env) :: starEach es X.env := by rfl) (hpl : (backTo pos (starEach es X.env)).any (·.1) = false := by rfl) : PE X (.Call (.Name x p) (e :: es) [] pos) (tx X (sBlt g fa)) :=
  PE.wk (pe_callTy hc.r hg hm hv ha hn hdb he hpl) fun σ H Q q => blt_wk q
theorem px_bltO (hc : CallO X (.builtin id) g) (hg : Gl X x) (hm : X.mg x = none) (hv : bootBuiltins x = some (.builtin id)) (ha : PA X (e :: es) (txa X fa)) (hn : x ≠ "__name__" := by decide) (hdb : (x == ("__debug__" : Str)) = false := by decide)
    (he : starEach (e :: es) X.env = (false, eval e X.env) :: starEach es X.env := by rfl) (hpl : (backTo pos (starEach es X.env)).any (·.1) = false := by rfl) : PE X (.Call (.Name x p) (e :: es) [] pos) (txo X (sBlt g fa)) :=
  PE.wk (pe_callB hc.r hg hm hv ha hn hdb he hpl) fun σ H Q q => bltO_wk q
theorem px_tyO (hc : CallO X (.type T) g) (hg : Gl X x) (hm : X.mg x = none) (hv : bootBuiltins x = some (.type T)) (ha : PA X (e :: es) (txa X fa)) (hn : x ≠ "__name__" := by decide) (hdb : (x == ("__debug__" : Str)) = false := by decide)
    (he : starEach (e :: es) X.env = (false, eval e X.env) :: starEach es X.env := by rfl) (hpl : (backTo pos (starEach es X.env)).any (·.1) = false := by rfl) : PE X (.Call (.Name x p) (e :: es) [] pos) (txo X (sBlt g fa)) :=
  PE.wk (pe_callTy hc.r hg hm hv ha hn hdb he hpl) fun σ H Q q => bltO_wk q
end

/-! what each gives -/
def dLen : List D → Option D
  | [.tuple xs] => some (.int xs.length)
  | [.list xs] => some (.int xs.length)
  | [.dict xs] => some (.int xs.length)
  | _ => none
def intsD : List D → Option (List Int)
  | [] => some []
  | .int i :: r => (intsD r).bind fun is => some (i :: is)
  | _ :: _ => none
def dSum : List D → Option D
  | [.tuple xs] => (intsD xs).bind fun is => some (.int is.sum)
  | [.list xs] => (intsD xs).bind fun is => some (.int is.sum)
  | _ => none
def boolsD : List D → Option (List Bool)
  | [] => some []
  | .bool i :: r => (boolsD r).bind fun is => some (i :: is)
  | _ :: _ => none
def dAll : List D → Option D
  | [.list xs] => (boolsD xs).bind fun is => some (.bool (is.all id))
  | _ => none
def dAny : List D → Option D
  | [.list xs] => (boolsD xs).bind fun is => some (.bool (is.any id))
  | _ => none
def alikeB (ds : List D) : Bool := ds.all fun d => !noneD d && ds.all fun d' => PySem.W.alike d d'
def okA (ds : List D) : Bool := PyData.plainAll ds && decide (PyData.depthAll ds ≤ 64)
def dMin : List D → Option D
  | [.list (x :: xs)] => if okA (x :: xs) && alikeB (x :: xs) then some (PySem.W.minD x xs) else none
  | [.tuple (x :: xs)] => if okA (x :: xs) && alikeB (x :: xs) then some (PySem.W.minD x xs) else none
  | [.int i, .int j] => some (.int (if j < i then j else i))
  | _ => none
def dMax : List D → Option D
  | [.list (x :: xs)] => if okA (x :: xs) && alikeB (x :: xs) then some (PySem.W.maxD x xs) else none
  | [.tuple (x :: xs)] => if okA (x :: xs) && alikeB (x :: xs) then some (PySem.W.maxD x xs) else none
  | [.int i, .int j] => some (.int (if j > i then j else i))
  | _ => none
def dAbs : List D → Option D
  | [.int i] => some (.int (if i < 0 then -i else i))
  | _ => none
def dInt : List D → Option D
  | [.int i] => some (.int i)
  | _ => none
def dTuple : List D → Option D
  | [.tuple xs] => some (.tuple xs)
  | [.list xs] => some (.tuple xs)
  | _ => none
def dList : List D → Option D
  | [.tuple xs] => some (.list xs)
  | [.list xs] => some (.list xs)
  | _ => none
section
variable {X : Cx}
theorem callD_of {f : Value} {g : List D → Option D} {r : List V → Hp → VK → Prop} (h : CallR X f r)
    (k : ∀ (M : Prot) (H : Hp) (xs : List V) (ds : List D) (dz : D) (Q : VK), (∀ a, M a → ∃ o, H a = some o) → ShA X.prog X.w X.K M H ds xs → g ds = some dz → (∀ z H', Gr H H' → Cl X.prog X.w X.K M H' dz z → Q z H') → r xs H Q) : CallD X f g :=
  fun pins s σ H M xs us ds dz Q I hM r hx e q => h pins s σ H xs us Q I r (k M H xs ds dz Q hM hx e q)
theorem sh1 {P : Program} {w : World} {K : Frag} {M : Prot} {H : Hp} {d : D} {xs : List V} (h : ShA P w K M H [d] xs) : ∃ v, xs = [v] ∧ Sh P w K M H d v := by
  cases h with
  | cons a t => cases t; exact ⟨_, rfl, a⟩
theorem sh2 {P : Program} {w : World} {K : Frag} {M : Prot} {H : Hp} {d d' : D} {xs : List V} (h : ShA P w K M H [d, d'] xs) : ∃ v u, xs = [v, u] ∧ Sh P w K M H d v ∧ Sh P w K M H d' u := by
  cases h with
  | cons a t =>
    cases t with
    | cons b t => cases t; exact ⟨_, _, rfl, a, b⟩
theorem cl_ints {P : Program} {w : World} {K : Frag} {M : Prot} {H : Hp} : ∀ {ds : List D} {vs : List V} {is : List Int}, ClA P w K M H ds vs → intsD ds = some is → vs = is.map V.int ∧ ds = is.map PyData.int
  | [], _, _, h, e => by cases e; exact ⟨h, rfl⟩
  | .int i :: _, _, _, ⟨v, r, e1, c, cs⟩, e => by
    obtain ⟨is, e2, e⟩ := bnd e
    cases e
    obtain ⟨h1, h2⟩ := cl_ints cs e2
    have c : v = .int i := c
    subst c h1 h2 e1
    exact ⟨rfl, rfl⟩
  | .none :: _, _, _, _, e => nomatch e
  | .bool _ :: _, _, _, _, e => nomatch e
  | .str _ :: _, _, _, _, e => nomatch e
  | .list _ :: _, _, _, _, e => nomatch e
  | .tuple _ :: _, _, _, _, e => nomatch e
  | .dict _ :: _, _, _, _, e => nomatch e
theorem cl_bools {P : Program} {w : World} {K : Frag} {M : Prot} {H : Hp} : ∀ {ds : List D} {vs : List V} {is : List Bool}, ClA P w K M H ds vs → boolsD ds = some is → vs = is.map V.bl ∧ ds = is.map PyData.bool
  | [], _, _, h, e => by cases e; exact ⟨h, rfl⟩
  | .bool i :: _, _, _, ⟨v, r, e1, c, cs⟩, e => by
    obtain ⟨is, e2, e⟩ := bnd e
    cases e
    obtain ⟨h1, h2⟩ := cl_bools cs e2
    have c : v = .bl i := c
    subst c h1 h2 e1
    exact ⟨rfl, rfl⟩
  | .none :: _, _, _, _, e => nomatch e
  | .int _ :: _, _, _, _, e => nomatch e
  | .str _ :: _, _, _, _, e => nomatch e
  | .list _ :: _, _, _, _, e => nomatch e
  | .tuple _ :: _, _, _, _, e => nomatch e
  | .dict _ :: _, _, _, _, e => nomatch e
theorem cd_len : CallD X (.builtin "len") dLen := fun pins s σ H M xs us ds dz Q I hM r hx e q => by
  unfold dLen at e
  split at e
  · cases e
    obtain ⟨v, rfl, a, ys, rfl, t, c⟩ := sh1 hx
    exact call_len_seq pins s σ H _ us Q I r ⟨a, ys, rfl, .inr t.sq, q _ H .refl (by rw [c.length]; rfl)⟩
  · cases e
    obtain ⟨v, rfl, a, ys, rfl, t, c⟩ := sh1 hx
    exact call_len_seq pins s σ H _ us Q I r ⟨a, ys, rfl, .inl (.inl t), q _ H .refl (by rw [c.length]; rfl)⟩
  · rename_i ps
    cases e
    obtain ⟨v, rfl, a, es, rfl, t, c⟩ := sh1 hx
    obtain ⟨u, rfl, rx⟩ := vals1 r
    cases rx
    obtain ⟨o, ets, ep, h1, h2, h3, ⟨as, h4⟩, h5, hz, hm⟩ := dn_raw I t
    have hl : ets.size = es.length := by
      have := h5.length
      simp only [List.length_map, Array.length_toList] at this
      exact this.symm
    have hc : es.length = ps.length := by
      have := congrArg List.length (clP_keys c)
      simp only [List.length_map] at this
      exact this
    rw [← hc] at q
    have hfit : (sizeLine : Int) < 2 ^ 63 := by decide
    exact PyProof.Rows.call_len_slot ⟨o, h1, h2.1⟩ PySem.F.slot_dict_len (fun Q' hq => PySem.call_len_raw hm ⟨o, h1, h2, h3⟩ (by rw [hl]; exact hq)) (by omega) (by omega) ⟨.int es.length, H, I.tok _, ⟨_, rfl⟩, q _ H .refl rfl⟩
  · cases e

/-! isinstance -/
def isTy : String → Option (D → Bool)
  | "int" => some fun d => match d with | .int _ => true | .bool _ => true | _ => false
  | "bool" => some fun d => match d with | .bool _ => true | _ => false
  | "str" => some fun d => match d with | .str _ => true | _ => false
  | "tuple" => some fun d => match d with | .tuple _ => true | _ => false
  | "list" => some fun d => match d with | .list _ => true | _ => false
  | "dict" => some fun d => match d with | .dict _ => true | _ => false
  | _ => none
inductive Ty where | int | bool | str | tuple | list | dict
def Ty.name : Ty → String
  | .int => "int" | .bool => "bool" | .str => "str" | .tuple => "tuple" | .list => "list" | .dict => "dict"
def Ty.is : Ty → D → Bool
  | .int, .int _ => true
  | .int, .bool _ => true
  | .bool, .bool _ => true
  | .str, .str _ => true
  | .tuple, .tuple _ => true
  | .list, .list _ => true
  | .dict, .dict _ => true
  | _, _ => false
def sIsi (T : Ty) (f : SemE) : SemE := fun ρ => (f ρ).bind fun r => (rdO r.2 r.1).bind fun d => some (.cl (.bool (T.is d)), r.2)
theorem isi_any {P : Program} {w : World} {A : Around} {E : Value → Shared → Prop} {s : Shared} {v : Value} {d : D} {as : List Addr} {Q : Value → Shared → Prop} (T : Ty) (r : Reads s.heap v d as)
    (h : ∀ tk, s.toks ≤ tk → Q (.bool (T.is d)) { s with toks := tk }) : wpAny (model P w) A (call (.builtin "isinstance") [v, .type T.name]) Q E s := by
  cases T with
  | int => exact PySem.W.isinstance_int_data r fun tk ht => by have := h tk ht; cases d <;> exact this
  | bool => exact PySem.W.isinstance_bool_data r fun tk ht => by have := h tk ht; cases d <;> exact this
  | str => exact PySem.W.isinstance_str_data r fun tk ht => by have := h tk ht; cases d <;> exact this
  | tuple => exact PySem.W.isinstance_tuple_data r fun tk ht => by have := h tk ht; cases d <;> exact this
  | list => exact PySem.W.isinstance_list_data r fun tk ht => by have := h tk ht; cases d <;> exact this
  | dict => exact PySem.W.isinstance_dict_data r fun tk ht => by have := h tk ht; cases d <;> exact this
def rIsiX (X : Cx) (T : Ty) : List V → Hp → VK → Prop := fun xs H Q => ∃ (x : V) (M : Prot) (d : D), xs = [x, .ty T.name] ∧ Sh X.prog X.w X.K M H d x ∧ Q (.bl (T.is d)) H
theorem call_isiX (T : Ty) : CallR X (.builtin "isinstance") (rIsiX X T) := fun pins s σ H xs us Q I r ⟨x, M, d, e, sh, q⟩ => by
  subst e
  obtain ⟨u1, u2, rfl, r1, r2⟩ := vals2 r
  have r2 : u2 = .type T.name := r2
  subst r2
  obtain ⟨as, rd⟩ := sh_reads I sh r1
  exact isi_any T rd fun tk _ => ⟨.bl _, H, I.tok tk, rfl, q⟩
theorem px_isi {a : Expr} {f : SemE} {y : Str} {p q pos : Pos} (T : Ty) (ha : PE X a (tx X f)) (hg : Gl X "isinstance") (hm : X.mg "isinstance" = none) (hgT : Gl X y) (hmT : X.mg y = none) (hvT : bootBuiltins y = some (.type T.name)) (hn : y ≠ "__name__" := by decide) (hdb : (y == ("__debug__" : Str)) = false := by decide)
    (he : starEach [a, .Name y q] X.env = [(false, eval a X.env), (false, eval (.Name y q) X.env)] := by rfl) (he2 : starEach [.Name y q] X.env = [(false, eval (.Name y q) X.env)] := by rfl) :
    PE X (.Call (.Name "isinstance" p) [a, .Name y q] [] pos) (tx X (sIsi T f)) :=
  PE.wk (pe_callB (call_isiX T) hg hm (by decide +kernel) (pa_cons ha (pa_cons (pe_bltn (v := .ty T.name) hgT hmT hvT rfl hn hdb) pa_nil (by rw [he2] <;> rfl)) (by rw [he, he2])) (by decide) (by decide) (by rw [he, he2]) (by rw [he2] <;> rfl)) fun σ H Q ⟨W, M, ρ, er, o, ρ', e, k⟩ => by
    obtain ⟨⟨o1, ρ1⟩, e1, e⟩ := bnd e
    obtain ⟨d, e2, e⟩ := bnd e
    cases e
    exact ⟨W, M, ρ, er, o1, ρ1, e1, fun v H1 er1 x1 s1 v1 => ⟨v, M, d, rfl, v1.sh er1 e2, k _ H1 er1 x1 s1 rfl⟩⟩
end
end PX

namespace PX
open PySem PySem.Spec PyProof.Rows L2

section
variable {X : Cx}
theorem cd_abs : CallD X (.builtin "abs") dAbs := callD_of call_abs fun M H xs ds dz Q hM hx e q => by
  unfold dAbs at e; split at e
  · obtain ⟨v, rfl, h⟩ := sh1 hx
    cases e
    exact ⟨_, by rw [show v = _ from h], q _ H .refl rfl⟩
  · cases e
theorem cd_int : CallD X (.type "int") dInt := callD_of call_int1 fun M H xs ds dz Q hM hx e q => by
  unfold dInt at e; split at e
  · obtain ⟨v, rfl, h⟩ := sh1 hx
    cases e
    exact .inl ⟨_, by rw [show v = _ from h], q _ H .refl rfl⟩
  · cases e
theorem cd_all (hc : X.calm = true) : CallD X (.builtin "all") dAll := callD_of (cr_all hc) fun M H xs ds dz Q hM hx e q => by
  unfold dAll at e; split at e
  · obtain ⟨v, rfl, a, ys, rfl, t, c⟩ := sh1 hx
    obtain ⟨bs, e2, e⟩ := bnd e
    cases e
    obtain ⟨rfl, _⟩ := cl_bools c e2
    exact ⟨a, bs, rfl, .inl t, q _ H .refl rfl⟩
  · cases e
theorem cd_any (hc : X.calm = true) : CallD X (.builtin "any") dAny := callD_of (cr_any hc) fun M H xs ds dz Q hM hx e q => by
  unfold dAny at e; split at e
  · obtain ⟨v, rfl, a, ys, rfl, t, c⟩ := sh1 hx
    obtain ⟨bs, e2, e⟩ := bnd e
    cases e
    obtain ⟨rfl, _⟩ := cl_bools c e2
    exact ⟨a, bs, rfl, .inl t, q _ H .refl rfl⟩
  · cases e
theorem presum_sum : ∀ (is : List Int) (n : Nat), n ≤ is.length → preSum (fun i => is.getD i 0) n = (is.take n).sum
  | is, 0, _ => by simp [preSum]
  | is, n + 1, h => by
    have ih := presum_sum is n (by omega)
    have e : is.take (n + 1) = is.take n ++ [is[n]] := by
      rw [List.take_add_one, List.getElem?_eq_getElem (by omega)]
      rfl
    have e2 : is.getD n 0 = is[n] := by
      rw [List.getD_eq_getElem?_getD, List.getElem?_eq_getElem (show n < is.length by omega)]
      rfl
    rw [preSum, ih, e, List.sum_append, e2]
    simp
theorem cd_sum (hc : X.calm = true) : CallD X (.builtin "sum") dSum := fun pins s σ H M xs us ds dz Q I hM r hx e q => by
  unfold dSum at e; split at e
  · obtain ⟨v, rfl, a, ys, rfl, t, c⟩ := sh1 hx
    obtain ⟨is, e2, e⟩ := bnd e
    cases e
    obtain ⟨rfl, _⟩ := cl_ints c e2
    obtain ⟨u, rfl, rx⟩ := vals1 r
    cases rx
    obtain ⟨its, rv, it, hz⟩ := TN.vals I t
    have hlen : its.length = is.length := by have := rv.length; rw [List.length_map] at this; omega
    refine call_sum_walkAnyS (PySem.W.iter_tupleW (A := X.A.in1) (I.ok.hd hc) (show s.heap.IsTuple a its.toArray from it) fun s₂ e W st hfp hw hk => ?_)
    refine ⟨_, _, _, _, _, _, _, fun i => is.getD i 0, rfl, W, st, hfp, fun i v hv => ?_, fun s' t' m => ?_⟩
    · have hv : its[i]? = some v := by simpa using hv
      have hi : i < its.length := by
        by_cases h : i < its.length
        · exact h
        · rw [List.getElem?_eq_none (by omega)] at hv; cases hv
      obtain ⟨u, h1, h2⟩ := rv.get (i := i) (x := .int (is.getD i 0)) (by simp [List.getD_eq_getElem?_getD, List.getElem?_eq_getElem (show i < is.length by omega)])
      rw [hv] at h1
      cases h1
      exact h2
    · obtain ⟨h', tk, rfl, hk'⟩ := PySem.W.moved_old e rfl m
      refine ⟨.int is.sum, H, I.kept (t' := tk) hk', ⟨t', ?_⟩, q _ H .refl rfl⟩
      rw [presum_sum _ _ (by simp [hlen]), List.take_of_length_le (by simp [hlen])]
  · obtain ⟨v, rfl, a, ys, rfl, t, c⟩ := sh1 hx
    obtain ⟨is, e2, e⟩ := bnd e
    cases e
    obtain ⟨rfl, _⟩ := cl_ints c e2
    exact cr_sum hc pins s σ H _ us Q I r ⟨a, is, rfl, .inl t, q _ H .refl rfl⟩
  · cases e
theorem depth_mem : ∀ {ds : List D} {d : D}, d ∈ ds → d.depth ≤ PyData.depthAll ds
  | [], _, h => absurd h (by simp)
  | x :: xs, d, h => by
    rw [PyData.depthAll]
    rcases List.mem_cons.mp h with rfl | h
    · exact Nat.le_max_left _ _
    · exact Nat.le_trans (depth_mem h) (Nat.le_max_right _ _)
theorem alikeB_all {ds : List D} (h : alikeB ds = true) : PySem.W.AllAlike ds := by
  unfold alikeB at h
  simp only [List.all_eq_true, Bool.and_eq_true] at h
  exact fun d hd d' hd' => (h d hd).2 d' hd'
theorem alikeB_ok {ds : List D} (h : alikeB ds = true) : PySem.W.AlikeAll ds := by
  refine ⟨alikeB_all h, fun d hd e => ?_⟩
  unfold alikeB at h
  simp only [List.all_eq_true, Bool.and_eq_true] at h
  have := (h d hd).1
  subst e
  cases this
theorem okA_plain {ds : List D} (h : okA ds = true) : PyData.plainAll ds = true ∧ PyData.depthAll ds ≤ 64 := by
  unfold okA at h
  rw [Bool.and_eq_true, decide_eq_true_eq] at h
  exact h
/-- an item told by its data is the item -/
theorem best_cl {pins : List (Addr × Obj)} {σ : L2.St} {H : Hp} {s : Shared} {M : Prot} (I : Inv X pins σ H s) {ds : List D} {ys : List V} {its : List Value} {i : Nat} {v : Value} {h' : Heap} {b : D} {bs : List Addr} (c : ClA X.prog X.w X.K M H ds ys) (rv : Vals ys its) (hp : PyData.plainAll ds = true) (hv : its.toArray[i]? = some v)
    (rd : Reads h' v b bs) (hk : ∀ b o, s.heap.get? b = some o → h'.get? b = some o) : ∃ z, RelV z v ∧ Cl X.prog X.w X.K M H b z := by
  have hv : its[i]? = some v := by simpa using hv
  have hl := c.length
  have hl2 := rv.length
  have hi : i < ds.length := by
    by_cases h : i < ds.length
    · exact h
    · rw [List.getElem?_eq_none (by omega)] at hv; cases hv
  obtain ⟨z, hz, cz⟩ := c.get (List.getElem?_eq_getElem hi)
  obtain ⟨u, hu, rz⟩ := rv.get hz
  rw [hv] at hu
  cases hu
  obtain ⟨as, r1⟩ := cl_reads I cz rz
  have hpd : (ds[i]).plain = true := PySem.W.plain_mem hp (List.getElem_mem hi)
  have e := PySem.SeqAt.plain_unique _ _ _ _ _ hpd (PyProof.Rows.Reads.keeps hk r1) rd
  rw [← e]
  exact ⟨z, rz, cz⟩
theorem cd_min (hc : X.calm = true) (hu : HasRoom X) : CallD X (.builtin "min") dMin := fun pins s σ H M xs us ds dz Q I hM r hx e q => by
  have hu : X.A.units + 100 < cLine := hu
  unfold dMin at e; split at e
  · split at e
    · rename_i x xs' ck
      rw [Bool.and_eq_true] at ck
      obtain ⟨hp, hd⟩ := okA_plain ck.1
      cases e
      obtain ⟨v, rfl, a, ys, rfl, t, c⟩ := sh1 hx
      obtain ⟨u, rfl, rx⟩ := vals1 r
      cases rx
      obtain ⟨its, rv, pl, hz⟩ := rd_list I t
      obtain ⟨as, ra⟩ := clA_reads I c rv
      refine PySem.W.min_list_data (I.ok.hd hc) pl.isList (by simpa using ra) (alikeB_ok ck.2) (by omega) fun i v h' tk bs hv rd hk => ?_
      obtain ⟨z, rz, cz⟩ := best_cl I c rv hp hv rd hk
      exact ⟨z, H, I.kept hk, rz, q z H .refl cz⟩
    · cases e
  · split at e
    · rename_i x xs' ck
      rw [Bool.and_eq_true] at ck
      obtain ⟨hp, hd⟩ := okA_plain ck.1
      cases e
      obtain ⟨v, rfl, a, ys, rfl, t, c⟩ := sh1 hx
      obtain ⟨u, rfl, rx⟩ := vals1 r
      cases rx
      obtain ⟨its, rv, pl, hz⟩ := TN.vals I t
      obtain ⟨as, ra⟩ := clA_reads I c rv
      refine PySem.W.min_tuple_data (I.ok.hd hc) (show s.heap.IsTuple a its.toArray from pl) (by simpa using ra) (alikeB_ok ck.2) (by omega) fun i v h' tk bs hv rd hk => ?_
      obtain ⟨z, rz, cz⟩ := best_cl I c rv hp hv rd hk
      exact ⟨z, H, I.kept hk, rz, q z H .refl cz⟩
    · cases e
  · obtain ⟨v, u, rfl, h1, h2⟩ := sh2 hx
    cases e
    exact call_min2 hc pins s σ H _ us Q I r ⟨_, _, by rw [show v = _ from h1, show u = _ from h2], q _ H .refl rfl⟩
  · cases e
theorem cd_max (hc : X.calm = true) (hu : HasRoom X) : CallD X (.builtin "max") dMax := fun pins s σ H M xs us ds dz Q I hM r hx e q => by
  have hu : X.A.units + 100 < cLine := hu
  unfold dMax at e; split at e
  · split at e
    · rename_i x xs' ck
      rw [Bool.and_eq_true] at ck
      obtain ⟨hp, hd⟩ := okA_plain ck.1
      cases e
      obtain ⟨v, rfl, a, ys, rfl, t, c⟩ := sh1 hx
      obtain ⟨u, rfl, rx⟩ := vals1 r
      cases rx
      obtain ⟨its, rv, pl, hz⟩ := rd_list I t
      obtain ⟨as, ra⟩ := clA_reads I c rv
      refine PySem.W.max_list_data (I.ok.hd hc) pl.isList (by simpa using ra) (alikeB_ok ck.2) (by omega) fun i v h' tk bs hv rd hk => ?_
      obtain ⟨z, rz, cz⟩ := best_cl I c rv hp hv rd hk
      exact ⟨z, H, I.kept hk, rz, q z H .refl cz⟩
    · cases e
  · split at e
    · rename_i x xs' ck
      rw [Bool.and_eq_true] at ck
      obtain ⟨hp, hd⟩ := okA_plain ck.1
      cases e
      obtain ⟨v, rfl, a, ys, rfl, t, c⟩ := sh1 hx
      obtain ⟨u, rfl, rx⟩ := vals1 r
      cases rx
      obtain ⟨its, rv, pl, hz⟩ := TN.vals I t
      obtain ⟨as, ra⟩ := clA_reads I c rv
      refine PySem.W.max_tuple_data (I.ok.hd hc) (show s.heap.IsTuple a its.toArray from pl) (by simpa using ra) (alikeB_ok ck.2) (by omega) fun i v h' tk bs hv rd hk => ?_
      obtain ⟨z, rz, cz⟩ := best_cl I c rv hp hv rd hk
      exact ⟨z, H, I.kept hk, rz, q z H .refl cz⟩
    · cases e
  · obtain ⟨v, u, rfl, h1, h2⟩ := sh2 hx
    cases e
    exact call_max2 hc pins s σ H _ us Q I r ⟨_, _, by rw [show v = _ from h1, show u = _ from h2], q _ H .refl rfl⟩
  · cases e
theorem cd_tuple : CallD X (.type "tuple") dTuple := fun pins s σ H M xs us ds dz Q I hM r hx e q => by
  unfold dTuple at e; split at e
  · cases e
    obtain ⟨v, rfl, a, ys, rfl, t, c⟩ := sh1 hx
    obtain ⟨u, rfl, rx⟩ := vals1 r
    cases rx
    obtain ⟨its, rv, pl, hz⟩ := TN.vals I t
    exact call_tuple_same pl ⟨.ref a, H, I, rfl, q _ H .refl ⟨a, ys, rfl, t, c⟩⟩
  · cases e
    obtain ⟨v, rfl, a, ys, rfl, t, c⟩ := sh1 hx
    obtain ⟨u, rfl, rx⟩ := vals1 r
    cases rx
    obtain ⟨its, rv, pl, hz⟩ := rd_list I t
    have hlen := rv.length
    exact call_tuple_list pl.isList (fun h' kp => new_tup I (tk := s.toks) hM kp rv hz c q) (by simp only [List.size_toArray] <;> omega)
  · cases e
theorem co_list : CallO X (.type "list") dList := fun pins s σ H M xs us ds dz Q I hM r hx e q => by
  unfold dList at e; split at e
  · cases e
    obtain ⟨v, rfl, a, ys, rfl, t, c⟩ := sh1 hx
    exact call_list_of pins s σ H _ us Q I r ⟨a, ys, rfl, .inr t.sq, fun l n => q l _ (Gr.upd n) n (fun z => by obtain ⟨o, e⟩ := hM l z; rw [n] at e; cases e) ⟨ys, upd_same, c.mv (mv_fresh n)⟩⟩
  · cases e
    obtain ⟨v, rfl, a, ys, rfl, t, c⟩ := sh1 hx
    exact call_list_of pins s σ H _ us Q I r ⟨a, ys, rfl, .inl (.inl t), fun l n => q l _ (Gr.upd n) n (fun z => by obtain ⟨o, e⟩ := hM l z; rw [n] at e; cases e) ⟨ys, upd_same, c.mv (mv_fresh n)⟩⟩
  · cases e

/-! ### sorted -/
/-- what may be sorted: alike data, all of them tuples that are not empty, or none None or a tuple -/
def sortable (ds : List D) : Bool := (ds.all fun d => match d with | .tuple (_ :: _) => true | _ => false) || (ds.all fun d => match d with | .none => false | .tuple _ => false | _ => true)
theorem sortable_ok {ds : List D} (h : sortable ds = true) : PySem.W.Sortable ds := by
  unfold sortable at h
  rw [Bool.or_eq_true, List.all_eq_true, List.all_eq_true] at h
  rcases h with h | h
  · refine .inl fun d hd => ?_
    have := h d hd
    split at this
    · exact ⟨_, _, rfl⟩
    · cases this
  · refine .inr fun d hd => ?_
    have := h d hd
    split at this
    · cases this
    · cases this
    · rename_i h1 h2
      exact ⟨fun e => h1 e, fun xs e => h2 xs e⟩
/-- merge sort by fuel: what the kernel can run -/
def mrg (le : D → D → Bool) : Nat → List D → List D → List D
  | 0, _, _ => []
  | _ + 1, [], ys => ys
  | _ + 1, x :: xs, [] => x :: xs
  | n + 1, x :: xs, y :: ys => if le x y = true then x :: mrg le n xs (y :: ys) else y :: mrg le n (x :: xs) ys
theorem mrg_eq (le : D → D → Bool) : ∀ (n : Nat) (xs ys : List D), xs.length + ys.length ≤ n → mrg le n xs ys = List.merge xs ys le
  | 0, [], [], _ => by simp [mrg]
  | 0, _ :: _, _, h => by simp at h
  | 0, [], _ :: _, h => by simp at h
  | _ + 1, [], ys, _ => by simp [mrg]
  | _ + 1, x :: xs, [], _ => by simp [mrg]
  | n + 1, x :: xs, y :: ys, h => by
    have h1 : xs.length + (y :: ys).length ≤ n := by simp only [List.length_cons] at h ⊢; omega
    have h2 : (x :: xs).length + ys.length ≤ n := by simp only [List.length_cons] at h ⊢; omega
    rw [mrg, mrg_eq le n _ _ h1, mrg_eq le n _ _ h2, List.cons_merge_cons]
def msort (le : D → D → Bool) : Nat → List D → List D
  | 0, xs => xs
  | _ + 1, [] => []
  | _ + 1, [a] => [a]
  | n + 1, a :: b :: xs => mrg le (xs.length + 2) (msort le n ((a :: b :: xs).take ((xs.length + 2 + 1) / 2))) (msort le n ((a :: b :: xs).drop ((xs.length + 2 + 1) / 2)))
theorem msort_eq (le : D → D → Bool) : ∀ (n : Nat) (xs : List D), xs.length ≤ n → msort le n xs = List.mergeSort xs le
  | 0, [], _ => by simp [msort]
  | 0, _ :: _, h => by simp at h
  | _ + 1, [], _ => by simp [msort]
  | _ + 1, [a], _ => by simp [msort]
  | n + 1, a :: b :: xs, h => by
    have h1 : ((a :: b :: xs).take ((xs.length + 2 + 1) / 2)).length ≤ n := by simp only [List.length_take, List.length_cons] at h ⊢; omega
    have h2 : ((a :: b :: xs).drop ((xs.length + 2 + 1) / 2)).length ≤ n := by simp only [List.length_drop, List.length_cons] at h ⊢; omega
    rw [msort, msort_eq le n _ h1, msort_eq le n _ h2, mrg_eq, List.mergeSort.eq_3]
    · simp [List.MergeSort.Internal.splitInTwo, List.splitAt_eq]
    · rw [List.length_mergeSort, List.length_mergeSort, ← List.length_append, List.take_append_drop]
      simp
def sortD (ds : List D) : Option (List D) := if okA ds && alikeB ds && sortable ds && decide (ds.length ≤ sizeLine) then some (msort (PySem.W.dataLe false id) ds.length ds) else none
theorem eachIs_cl {P : Program} {w : World} {K : Frag} {M : Prot} {H : Hp} : ∀ {ds : List D} {vs : List V} {us : List Value}, ClA P w K M H ds vs → Vals vs us → PySem.W.EachIs (fun u d => ∃ v, RelV v u ∧ Cl P w K M H d v) us ds
  | [], _, _, h, r => by rw [show _ = [] from h] at r; cases r; exact .nil
  | _ :: _, _, _, ⟨v, q, e, c, cs⟩, r => by
    subst e
    obtain ⟨u, ws, rfl, a, t⟩ := vals_cons r
    exact .cons ⟨v, a, c⟩ (eachIs_cl cs t)
theorem cl_eachIs {P : Program} {w : World} {K : Frag} {M : Prot} {H : Hp} : ∀ {ds : List D} {us : List Value}, PySem.W.EachIs (fun u d => ∃ v, RelV v u ∧ Cl P w K M H d v) us ds → ∃ vs, ClA P w K M H ds vs ∧ Vals vs us
  | _, _, .nil => ⟨[], rfl, .nil⟩
  | _, _, .cons ⟨v, a, c⟩ t => by
    obtain ⟨vs, h1, h2⟩ := cl_eachIs t
    exact ⟨v :: vs, ⟨v, vs, rfl, c, h1⟩, .cons a h2⟩
/-- sorted(x) where x is collected -/
theorem sorted_any {pins : List (Addr × Obj)} {σ : L2.St} {H : Hp} {s : Shared} {M : Prot} {Q : VK} (hu : HasRoom X) (I : Inv X pins σ H s) (hM : ∀ a, M a → ∃ o, H a = some o) {x : Value} {vs : List V} {ds es : List D}
    (col : ∀ R : List Value → Shared → Prop, (∀ its h' tk, Vals vs its → (∀ b o, s.heap.get? b = some o → h'.get? b = some o) → R its { s with heap := h', toks := tk }) → wpAny (model X.prog X.w) X.A.in1 (collect x) R X.xe s)
    (c : ClA X.prog X.w X.K M H ds vs) (e : sortD ds = some es)
    (q : ∀ a H', Gr H H' → H a = none → ¬ M a → Co X.prog X.w X.K (fun b => M b ∨ b = a) H' (.list es) a → Q (.ref a) H') : wpAny (model X.prog X.w) X.A (call (.builtin "sorted") [x]) (EP X pins σ Q) X.xe s := by
  have hu : X.A.units + 100 < cLine := hu
  unfold sortD at e
  split at e
  · rename_i ck
    rw [Bool.and_eq_true, Bool.and_eq_true, Bool.and_eq_true, decide_eq_true_eq] at ck
    obtain ⟨⟨⟨c1, c2⟩, c3⟩, c4⟩ := ck
    obtain ⟨hp, hd⟩ := okA_plain c1
    rw [msort_eq _ _ _ (Nat.le_refl _)] at e
    cases e
    have hl1 := c.length
    refine Calls.call_function_entry PyProof.Rows.kind_sorted PyProof.Rows.plain_sorted PyProof.Rows.entry_sorted (PyProof.Rows.args_sorted1 _) ?_
    unfold Builtin.«sorted»
    refine wpAny_bind (m := checkCount "sorted" 1 1 _) (wpAny_pure ?_)
    refine wpAny_bind (col _ fun its h' tk rv hk => ?_)
    have hl2 := rv.length
    refine wpAny_bind (wpAny_newList ?_ (by omega))
    have hat : (h'.push { cls := .type "list", data := .seq its.toArray }).get? h'.objs.size = some (seqObj "list" its.toArray 0) := Heap.get?_push_size _ rfl
    have hk2 : ∀ b o, s.heap.get? b = some o → (h'.push { cls := .type "list", data := .seq its.toArray }).get? b = some o := fun b o e => Heap.get?_push_of_some _ (hk b o e)
    have I1 : Inv X pins σ H { s with heap := h', toks := tk } := I.kept (t' := tk) hk
    refine wpAny_bind (wpAny_holding (PySem.W.list_sort_data (A := X.A.in1) (vs := its) (bs := ds) (enc := id) hat (eachIs_cl c rv) ?_ (by rw [List.map_id]; exact alikeB_all c2) (by rw [List.map_id]; exact sortable_ok c3) c4 (fun d hd' => ?_) fun out ho eo => ?_))
    · refine (PySem.W.each_mem (eachIs_cl c rv)).mono fun u d ⟨⟨v, r1, c1⟩, _⟩ => ?_
      obtain ⟨as, rd⟩ := cl_reads I1 c1 r1
      refine ⟨as, PyProof.Rows.Reads.keeps (fun b o e => Heap.get?_push_of_some _ e) rd, fun hm => ?_⟩
      obtain ⟨o, eo⟩ := PyProof.On.reads_mem_get rd _ hm
      exact absurd (Heap.lt_size eo) (Nat.lt_irrefl _)
    · have : d.depth ≤ PyData.depthAll ds := depth_mem hd'
      show X.A.units + 1 + 1 + (id d).depth < cLine
      show X.A.units + 1 + 1 + d.depth < cLine
      omega
    · refine wpAny_pure ⟨_, rfl, ?_⟩
      obtain ⟨n, hn⟩ := PyProof.Rows.sortedHeap_at (out := out.toArray) hat
      obtain ⟨ws, cw, rw'⟩ := cl_eachIs eo
      have hf : H h'.objs.size = none := I1.hok.fresh (Nat.le_refl _)
      have kp : ∀ b o, h'.get? b = some o → (sortedHeap (h'.push { cls := .type "list", data := .seq its.toArray }) h'.objs.size its out.toArray).get? b = some o := fun b o e => by
        have hlt := Heap.lt_size e
        rw [PyProof.Rows.sortedHeap_old (Nat.ne_of_lt hlt) (by rw [Heap.size_push]; exact Nat.lt_succ_of_lt hlt)]
        exact Heap.get?_push_of_some _ e
      have hwl : ws.length ≤ sizeLine := by
        have := cw.length
        rw [List.length_mergeSort] at this
        omega
      have I2 : Inv X pins σ (upd H h'.objs.size (.lst ws)) { s with heap := sortedHeap (h'.push { cls := .type "list", data := .seq its.toArray }) h'.objs.size its out.toArray, toks := tk } :=
        I1.laid (t' := tk) kp (Nat.le_refl _) ⟨hwl, out, n, rw', hn⟩
      exact ⟨.ref h'.objs.size, _, I2, rfl, q _ _ (Gr.upd hf) hf (fun z => by obtain ⟨o, e⟩ := hM _ z; rw [hf] at e; cases e) ⟨ws, upd_same, cw.mv (mv_fresh hf)⟩⟩
  · cases e
def dSorted : List D → Option D
  | [.tuple xs] => (sortD xs).bind fun ys => some (.list ys)
  | [.list xs] => (sortD xs).bind fun ys => some (.list ys)
  | _ => none
theorem co_sorted (hu : HasRoom X) : CallO X (.builtin "sorted") dSorted := fun pins s σ H M xs us ds dz Q I hM r hx e q => by
  unfold dSorted at e; split at e
  · obtain ⟨ys, e2, e⟩ := bnd e
    cases e
    obtain ⟨v, rfl, a, zs, rfl, t, c⟩ := sh1 hx
    obtain ⟨u, rfl, rx⟩ := vals1 r
    cases rx
    obtain ⟨its, rv, ⟨o, h1, h2, n, h3⟩, hz⟩ := TN.vals I t
    have hl := rv.length
    exact sorted_any hu I hM (fun R k => wpAny_collect_seq a (.inr rfl) h1 h2 h3 (fun h' hk => by simpa using k its h' s.toks rv hk) (by simp only [List.size_toArray] <;> omega)) c e2 q
  · obtain ⟨ys, e2, e⟩ := bnd e
    cases e
    obtain ⟨v, rfl, a, zs, rfl, t, c⟩ := sh1 hx
    obtain ⟨u, rfl, rx⟩ := vals1 r
    cases rx
    obtain ⟨its, rv, ⟨o, n, h1, h2, _, h3⟩, hz⟩ := rd_list I t
    have hl := rv.length
    exact sorted_any hu I hM (fun R k => wpAny_collect_seq a (.inl rfl) h1 h2 h3 (fun h' hk => by simpa using k its h' s.toks rv hk) (by simp only [List.size_toArray] <;> omega)) c e2 q
  · cases e
end
end PX

namespace PX
open PySem PySem.Spec PyProof.Rows L2

/-! ### subscripts and slices -/
def IxD (X : Cx) (g : D → D → Option D) : Prop :=
  ∀ (value slice : Expr) (pins : List (Addr × Obj)) (s : Shared) (σ : L2.St) (H : Hp) (M : Prot) (x y : V) (v u : Value) (dx dy dz : D) (Q : VK), Inv X pins σ H s → (∀ a, M a → ∃ o, H a = some o) → RelV x v → RelV y u →
    Sh X.prog X.w X.K M H dx x → Sh X.prog X.w X.K M H dy y → g dx dy = some dz → (∀ z H', Gr H H' → Cl X.prog X.w X.K M H' dz z → Q z H') →
    subscripted slice false v u = operate [v, u] (getItem v u) → wpAny (model X.prog X.w) X.A (subscriptTail value slice v u) (EP X pins σ Q) X.xe s
theorem IxD.r {X : Cx} {g : D → D → Option D} (h : IxD X g) : IxR X (rD X g) := fun value slice pins s σ H x y v u Q I rx ry ⟨M, dx, dy, dz, hM, hx, hy, e, k⟩ hs =>
  h value slice pins s σ H M x y v u dx dy dz Q I hM rx ry hx hy e k hs
section
variable {X : Cx} {a b : Expr} {f g : SemE} {pos : Pos}
theorem px_ix {gg : D → D → Option D} (ho : IxD X gg) (ha : PE X a (tx X f)) (hb : PE X b (tx X g)) (hs : PlainIx b) : PE X (.Subscript a b pos) (tx X (sBin gg f g)) :=
  PE.wk (pe_ix ho.r ha hb hs) fun σ H Q q => bin_wk q
end
def dIx : D → D → Option D
  | .list xs, .int i => atI xs i
  | .tuple xs, .int i => atI xs i
  | _, _ => none
section
variable {X : Cx}
theorem atI_cl {P : Program} {w : World} {K : Frag} {M : Prot} {H : Hp} {ds : List D} {vs : List V} {i : Int} {d : D} (c : ClA P w K M H ds vs) (e : atI ds i = some d) : ∃ v, atI vs i = some v ∧ Cl P w K M H d v := by
  unfold atI at e ⊢
  obtain ⟨j, e1, e2⟩ := bnd e
  obtain ⟨v, h1, h2⟩ := c.get e2
  refine ⟨v, ?_, h2⟩
  rw [c.length, e1]
  exact h1
theorem xd_ix : IxD X dIx := fun value slice pins s σ H M x y v u dx dy dz Q I hM rx ry hx hy e q hs => by
  unfold dIx at e; split at e
  · obtain ⟨a, xs, rfl, t, c⟩ := hx
    obtain ⟨z, e1, cz⟩ := atI_cl c e
    exact ix_list value slice pins s σ H _ y v u Q I rx ry ⟨a, xs, _, z, rfl, hy, .inl t, e1, q z H .refl cz⟩ hs
  · obtain ⟨a, xs, rfl, t, c⟩ := hx
    obtain ⟨z, e1, cz⟩ := atI_cl c e
    exact ix_tup value slice pins s σ H _ y v u Q I rx ry ⟨a, xs, _, z, rfl, hy, t.sq, e1, q z H .refl cz⟩ hs
  · cases e
end
def cutD (xs : List D) (lo hi : Option Int) : List D := (xs.drop (HT.sIx xs.length 0 lo)).take (HT.sIx xs.length xs.length hi - HT.sIx xs.length 0 lo)
theorem cut_cl {P : Program} {w : World} {K : Frag} {M : Prot} {H : Hp} {ds : List D} {vs : List V} {lo hi : Option Int} (c : ClA P w K M H ds vs) : ClA P w K M H (cutD ds lo hi) (cutV vs lo hi) := by
  unfold cutD cutV
  rw [c.length]
  exact (c.drop _).take _
def dSlice (lo hi : Option Int) : D → Option D
  | .list xs => some (.list (cutD xs lo hi))
  | .tuple xs => some (.tuple (cutD xs lo hi))
  | _ => none
abbrev SemP := En → Option (Option Int × En)
def tXP (P : Program) (w : World) (K : Frag) (f : SemP) : TO := fun σ H Q => ∃ W M ρ, ER P w K W M ρ σ H ∧ ∃ o ρ', f ρ = some (o, ρ') ∧
  ∀ H', ER P w K W M ρ' σ H' → Ext W M H H' → Shp ρ ρ' → Q o H'
def sPn : SemP := fun ρ => some (none, ρ)
def sPs (f : SemE) : SemP := fun ρ => (f ρ).bind fun r => match r.1 with | .cl (.int i) => some (some i, r.2) | _ => none
def sSlice (f : SemE) (g h : SemP) : SemE := fun ρ => (f ρ).bind fun r1 => (g r1.2).bind fun r2 => (h r2.2).bind fun r3 => (rdO r3.2 r1.1).bind fun d => (dSlice r2.1 r3.1 d).bind fun z => some (.cl z, r3.2)
section
variable {X : Cx} {e : Expr} {lo hi : Option Expr} {f : SemE} {g h : SemP} {pos p2 : Pos}
theorem PO.wk {X : Cx} {e : Option Expr} {t t' : TO} (h : PO X e t) (i : ∀ σ H Q, t' σ H Q → t σ H Q) : PO X e t' := ⟨fun pins s σ H Q I q => h.run pins s σ H Q I (i σ H Q q)⟩
theorem px_pn : PO X none (tXP X.prog X.w X.K sPn) := PO.wk po_none fun σ H Q ⟨W, M, ρ, er, o, ρ', e, k⟩ => by
  cases e
  exact k H er .refl .refl
theorem px_ps (ha : PE X e (tx X f)) : PO X (some e) (tXP X.prog X.w X.K (sPs f)) := PO.wk (po_some ha) fun σ H Q ⟨W, M, ρ, er, o, ρ', e, k⟩ => by
  obtain ⟨⟨o1, ρ1⟩, e1, e⟩ := bnd e
  refine ⟨W, M, ρ, er, o1, ρ1, e1, fun v H1 er1 x1 s1 v1 => ?_⟩
  dsimp only at e
  split at e
  · cases e
    exact ⟨_, v1, k H1 er1 x1 s1⟩
  · cases e
/-- slices by values -/
def SlD (X : Cx) : Prop :=
  ∀ (pins : List (Addr × Obj)) (s : Shared) (σ : L2.St) (H : Hp) (M : Prot) (x : V) (v vl vu : Value) (lo hi : Option Int) (sl : Addr) (dx dz : D) (Q : VK), Inv X pins σ H s → (∀ a, M a → ∃ o, H a = some o) → RelV x v → s.heap.IsSliceOf sl vl vu .none → IsPart vl lo → IsPart vu hi →
    Sh X.prog X.w X.K M H dx x → dSlice lo hi dx = some dz → (∀ z H', Gr H H' → Cl X.prog X.w X.K M H' dz z → Q z H') →
    ∃ T id, typeLookup (.type T) "__getitem__" = pure (some (.builtin id)) ∧ s.TypeIs v T ∧ wpAny (model X.prog X.w) X.A (getItem v (.ref sl)) (EP X pins σ Q) X.xe s
theorem sld : SlD X := fun pins s σ H M x v vl vu lo hi sl dx dz Q I hM rx hs pl pu hx e q => by
  unfold dSlice at e; split at e
  · cases e
    obtain ⟨a, xs, rfl, t, c⟩ := hx
    exact sl_list pins s σ H _ v vl vu lo hi sl Q I rx hs pl pu ⟨a, xs, rfl, .inl t, fun p n => q _ _ (Gr.upd n) (co_cl (M := M) (fun z => by obtain ⟨o, e⟩ := hM p z; rw [n] at e; cases e) ⟨_, upd_same, (cut_cl c).mv (mv_fresh n)⟩)⟩
  · cases e
    obtain ⟨a, xs, rfl, t, c⟩ := hx
    cases rx
    obtain ⟨its, r, ht, hz⟩ := TN.vals I t
    have hlen : its.toArray.size = xs.length := by rw [List.size_toArray]; exact r.length.symm
    refine ⟨"tuple", _, PyProof.Rows.slot_tuple_getitem.lookup, ht.typeIs, ?_⟩
    by_cases hw : HT.sIx xs.length 0 lo = 0 ∧ HT.sIx xs.length xs.length hi = xs.length
    · refine getItem_tuple_whole ht hs pl pu (by rw [hlen]; exact hw) ⟨.ref a, H, I, rfl, q _ H .refl ⟨a, xs, rfl, t, ?_⟩⟩
      have hc := cut_cl (lo := lo) (hi := hi) c
      have e1 : cutV xs lo hi = xs := by
        unfold cutV
        rw [hw.1, hw.2, List.drop_zero, Nat.sub_zero, List.take_length]
      rw [e1] at hc
      exact hc
    · refine HT.getItem_tuple_cut ht hs pl pu (by rw [hlen]; exact hw) ?_ (by rw [hlen]; exact hz)
      rw [hlen]
      exact new_tup I (tk := s.toks) (h' := s.heap) hM (fun _ _ h => h) (xs := cutV xs lo hi) (its := (its.drop (HT.sIx xs.length 0 lo)).take (HT.sIx xs.length xs.length hi - HT.sIx xs.length 0 lo)) ((r.drop _).take _) (Nat.le_trans (cutV_length xs lo hi) hz) (cut_cl c) q
  · cases e
theorem px_slice (ha : PE X e (tx X f)) (hl : PO X lo (tXP X.prog X.w X.K g)) (hu : PO X hi (tXP X.prog X.w X.K h)) : PE X (.Subscript e (.Slice lo hi none p2) pos) (tx X (sSlice f g h)) :=
  PE.wk (pe_slice (r := fun x lo hi H Q => ∃ (M : Prot) (dx dz : D), (∀ a, M a → ∃ o, H a = some o) ∧ Sh X.prog X.w X.K M H dx x ∧ dSlice lo hi dx = some dz ∧ ∀ z H', Gr H H' → Cl X.prog X.w X.K M H' dz z → Q z H')
    (fun pins s σ H x v vl vu lo hi sl Q I rx hs pl pu ⟨M, dx, dz, hM, hx, e, q⟩ => sld pins s σ H M x v vl vu lo hi sl dx dz Q I hM rx hs pl pu hx e q) ha hl hu) fun σ H Q ⟨W, M, ρ, er, o, ρ', e, k⟩ => by
    obtain ⟨⟨o1, ρ1⟩, e1, e⟩ := bnd e
    obtain ⟨⟨l, ρ2⟩, e2, e⟩ := bnd e
    obtain ⟨⟨u, ρ3⟩, e3, e⟩ := bnd e
    obtain ⟨d, e4, e⟩ := bnd e
    obtain ⟨z, e5, e⟩ := bnd e
    cases e
    refine ⟨W, M, ρ, er, o1, ρ1, e1, fun v H1 er1 x1 s1 v1 => ⟨W, M, ρ1, er1, l, ρ2, e2, fun H2 er2 x2 s2 => ⟨W, M, ρ2, er2, u, ρ3, e3, fun H3 er3 x3 s3 => ⟨M, d, z, er3.md, ?_, e5, fun z' H4 gr c => ?_⟩⟩⟩⟩
    · exact ((v1.mv (x2.mv er.wm) s2).mv (x3.mv er.wm) s3).sh er3 e4
    · exact k z' H4 (er3.gr gr) (((x1.trans x2).trans x3).trans gr.ext) ((s1.trans s2).trans s3) c
end

/-! ### in, not in: lists and tuples -/
def dIn (x y : D) : Option D := match y with
  | .list xs => if okD x && okA xs then some (.bool (xs.any fun z => PyData.eqv z x)) else none
  | .tuple xs => if okD x && okA xs then some (.bool (xs.any fun z => PyData.eqv z x)) else none
  | _ => none
def dNin (x y : D) : Option D := match y with
  | .list xs => if okD x && okA xs then some (.bool (!xs.any fun z => PyData.eqv z x)) else none
  | .tuple xs => if okD x && okA xs then some (.bool (!xs.any fun z => PyData.eqv z x)) else none
  | _ => none
section
variable {X : Cx}
theorem od_in (hu : HasRoom X) : OpD X (compareOp .In) dIn := fun pins s σ H M x y v u dx dy dz Q I hM rx ry hx hy e q => by
  have hu : X.A.units + 100 < cLine := hu
  unfold dIn at e; split at e
  all_goals first | cases e; done | skip
  all_goals
    split at e
    · rename_i ck
      rw [Bool.and_eq_true] at ck
      obtain ⟨p1, p2⟩ := okD_plain ck.1
      obtain ⟨p3, p4⟩ := okA_plain ck.2
      cases e
      obtain ⟨as, r1⟩ := sh_reads I hx rx
      obtain ⟨bs, r2⟩ := sh_reads I hy ry
      first
        | exact PySem.SeqAt.in_list_data r2 r1 p3 p1 (by omega) ⟨.bl _, H, I, rfl, q _ H .refl rfl⟩
        | exact PySem.SeqAt.in_tuple_data r2 r1 p3 p1 (by omega) ⟨.bl _, H, I, rfl, q _ H .refl rfl⟩
    · cases e
theorem od_nin (hu : HasRoom X) : OpD X (compareOp .NotIn) dNin := fun pins s σ H M x y v u dx dy dz Q I hM rx ry hx hy e q => by
  have hu : X.A.units + 100 < cLine := hu
  unfold dNin at e; split at e
  all_goals first | cases e; done | skip
  all_goals
    split at e
    · rename_i ck
      rw [Bool.and_eq_true] at ck
      obtain ⟨p1, p2⟩ := okD_plain ck.1
      obtain ⟨p3, p4⟩ := okA_plain ck.2
      cases e
      obtain ⟨as, r1⟩ := sh_reads I hx rx
      obtain ⟨bs, r2⟩ := sh_reads I hy ry
      first
        | exact PySem.SeqAt.notIn_list_data r2 r1 p3 p1 (by omega) ⟨.bl _, H, I, rfl, q _ H .refl rfl⟩
        | exact PySem.SeqAt.notIn_tuple_data r2 r1 p3 p1 (by omega) ⟨.bl _, H, I, rfl, q _ H .refl rfl⟩
    · cases e
/-- a tuple of the module's own, as an operand: x in T -/
theorem px_globT {x : Str} {a : Addr} {pos : Pos} {ds : List D} {xs : List V} (hg : Gl X x) (hm : X.mg x = some (.ref a)) (ht : TK X.K a xs) (hc : ∀ M H, ClA X.prog X.w X.K M H ds xs) (hd : (x == ("__debug__" : Str)) = false := by decide) : PE X (.Name x pos) (tx X (sC (.tuple ds))) :=
  px_c (pe_glob (v := .ref a) hg hm rfl hd) fun M H => ⟨a, xs, rfl, .inr ht, hc M H⟩
end
end PX

namespace PX
open PySem PySem.Spec PyProof.Rows L2

/-! ### times -/
theorem tuple_mul1 (l : Addr) (items : Array Value) (n : Nat) (dd : Option Addr) (sl : Array (Option Value)) (u : Tok) :
    Meets (Builtin.«tuple.__mul__» ⟨[.ref l, .int 1 u], []⟩) (fun _ R s => s.heap.get? l = some { cls := .type "tuple", dict := dd, data := .seq items n, slots := sl } ∧ R (.ok (.ret (Value.ref l))) s) :=
  .of_wp fun prog w A R s h => by
    obtain ⟨hp, g, d, tk, os⟩ := s
    obtain ⟨hl, h⟩ := h
    have f1 := AutoSeq1.idx_int
    have c1 : (items.isEmpty || (1 : Int) == 1) = true := by rw [Bool.or_eq_true]; exact .inr rfl
    have ht : ({ heap := hp, gens := g, drawn := d, toks := tk, os := os } : Shared).TypeIs (.ref l) "tuple" := ⟨_, hl, rfl⟩
    wp_walk using wpAny_loadPart' hl
    exact ⟨_, rfl, h⟩
theorem rep_cl {P : Program} {w : World} {K : Frag} {M : Prot} {H : Hp} {ds : List D} {vs : List V} (c : ClA P w K M H ds vs) : ∀ n : Nat, ClA P w K M H (List.replicate n ds).flatten (List.replicate n vs).flatten
  | 0 => rfl
  | n + 1 => by
    rw [List.replicate_succ, List.replicate_succ, List.flatten_cons, List.flatten_cons]
    exact c.append (rep_cl c n)
section
variable {X : Cx}
theorem od_mul : OpD X (binaryOp .Mult) dMul := fun pins s σ H M x y v u dx dy dz Q I hM rx ry hx hy e q => by
  unfold dMul at e; split at e
  · split at e
    · rename_i ck
      cases e
      exact op_mulW pins s σ H x y v u Q I rx ry ⟨_, _, hx, hy, ck, q _ H .refl rfl⟩
    · cases e
  · rename_i ds k
    split at e
    · rename_i ck
      obtain ⟨c1, c2, c3, c4⟩ := ck
      cases e
      obtain ⟨a, xs, rfl, t, c⟩ := hx
      have hy : y = .int k := hy
      subst hy
      have hl := c.length
      by_cases h1 : k = 1
      · subst h1
        cases rx
        obtain ⟨tk, rfl⟩ := ry
        obtain ⟨its, r, ⟨⟨cls, dd, data, sl⟩, ho, hc, n, hd⟩, hs⟩ := TN.vals I t
        simp only at hc hd
        subst hc hd
        refine wpAny_binaryOp_repeat_ref (T := "tuple") (U := "int") (by decide) ⟨_, ho, rfl⟩ (fun s' => typeIs_int s' 1 tk) noFill_tuple_mul F.fills_int_mul F.slot_int_rmul repeat_tuple F.slot_int_index.lookup
          (call_meets F.slot_int_rmul (typeIs_int s 1 tk) F.entry_int_rmul (F.args_int_rmul_2 _ _) (int_rmul_tuple 1 tk a its.toArray n dd sl)
            ⟨ho, rfl, ⟨_, ho, rfl⟩, call_meets F.slot_tuple_mul ⟨_, ho, rfl⟩ F.entry_tuple_mul (F.args_tuple_mul_2 _ _) (tuple_mul1 a its.toArray n dd sl tk) ⟨ho, ?_⟩⟩)
        have e1 : (List.replicate (Int.toNat 1) ds).flatten = ds := by simp
        rw [e1] at q
        exact ⟨.ref a, H, I, rfl, q _ H .refl ⟨a, xs, rfl, t, c⟩⟩
      · cases rx
        obtain ⟨tk, rfl⟩ := ry
        obtain ⟨its, r, ⟨⟨cls, dd, data, sl⟩, ho, hc, n, hd⟩, hs⟩ := TN.vals I t
        simp only at hc hd
        subst hc hd
        have hle : its.length = xs.length := r.length.symm
        have hn : its ≠ [] := fun e => by rw [e] at hle; simp at hle; omega
        have hi : its.toArray.isEmpty = false := by
          cases its with
          | nil => exact absurd rfl hn
          | cons a b => rfl
        have hsz0 : its.toArray.size = xs.length := by rw [List.size_toArray, hle]
        have hm : ((its.toArray.size : Nat) : Int) * k ≤ 1000000 := by
          rw [hsz0]
          have a1 : ((xs.length : Nat) : Int) * k ≤ 1000 * k := Int.mul_le_mul_of_nonneg_right (by omega) (by omega)
          omega
        have flen : (List.replicate k.toNat its).flatten.length ≤ sizeLine := by
          rw [PyProof.Rows.lm_len_rep_flat, hle, sizeLine_eq]
          have a1 : k.toNat * xs.length ≤ 1000 * 1000 := Nat.mul_le_mul (by omega) (by omega)
          omega
        have flen2 : (List.replicate k.toNat xs).flatten.length ≤ sizeLine := by
          rw [PyProof.Rows.lm_len_rep_flat, sizeLine_eq]
          have a1 : k.toNat * xs.length ≤ 1000 * 1000 := Nat.mul_le_mul (by omega) (by omega)
          omega
        have c0 : (decide (k < -(2 ^ 63)) || decide (k ≥ 2 ^ 63)) = false := by
          rw [decide_eq_false (by omega), decide_eq_false (by omega)] <;> rfl
        have c1 : (its.toArray.isEmpty || k == 1) = false := by
          rw [hi, Bool.false_or]
          exact beq_eq_false_iff_ne.mpr (by omega)
        have c2 : (decide (k ≤ 0) || its.toArray.isEmpty) = false := by
          rw [hi, Bool.or_false]
          exact decide_eq_false (by omega)
        have c4 : Builtin.Tuple.tupleTooMany (((its.toArray.size : Nat) : Int) * k) = false := by
          unfold Builtin.Tuple.tupleTooMany
          rw [sizeLine_eq]
          exact decide_eq_false (by omega)
        refine wpAny_binaryOp_repeat_ref (T := "tuple") (U := "int") (by decide) ⟨_, ho, rfl⟩ (fun s' => typeIs_int s' k tk) noFill_tuple_mul F.fills_int_mul F.slot_int_rmul repeat_tuple F.slot_int_index.lookup
          (call_meets F.slot_int_rmul (typeIs_int s k tk) F.entry_int_rmul (F.args_int_rmul_2 _ _) (int_rmul_tuple k tk a its.toArray n dd sl)
            ⟨ho, rfl, ⟨_, ho, rfl⟩, call_meets F.slot_tuple_mul ⟨_, ho, rfl⟩ F.entry_tuple_mul (F.args_tuple_mul_2 _ _) (tuple_mulW a its.toArray n dd sl k tk c0 c1 c2 (by omega) c4 (by rw [size_rep, List.size_toArray]; exact flen)) ⟨ho, ?_⟩⟩)
        rw [size_rep]
        exact new_tup I (tk := s.toks) (h' := s.heap) hM (fun _ _ h => h) (r.rep k.toNat) flen2 (rep_cl c k.toNat) q
    · cases e
  · rename_i ds k
    split at e
    · rename_i ck
      obtain ⟨c1, c2, c3⟩ := ck
      cases e
      obtain ⟨a, xs, rfl, t, c⟩ := hx
      have hy : y = .int k := hy
      subst hy
      have hl := c.length
      have hlen : xs.length * k.toNat ≤ sizeLine := by
        rw [sizeLine_eq]
        have a1 : xs.length * k.toNat ≤ 1000 * 1000 := Nat.mul_le_mul (by omega) (by omega)
        omega
      cases rx
      obtain ⟨tk, rfl⟩ := ry
      obtain ⟨its, n, r, eo, hz⟩ := rd_listE I t
      have hl2 := r.length
      have hlen : its.toArray.size * k.toNat ≤ sizeLine := by rw [List.size_toArray, ← hl2]; exact hlen
      have hcap : ¬ its.toArray.size * k.toNat > (2 ^ 63 - 1) / 8 := by
        have : (sizeLine : Nat) ≤ (2 ^ 63 - 1) / 8 := by decide
        omega
      have hfit : ¬ (!Builtin.List.listFitsIndex k) = true := by
        rw [fitsIndex_both (by omega) (by omega)]
        exact Bool.false_ne_true
      have hlong : ¬ Builtin.List.listTooLong (its.toArray.size * k.toNat) = true := by
        rw [notLongL hlen]
        exact Bool.false_ne_true
      have hnew : List.foldl (fun x1 x2 => x1 ++ x2) #[] (List.replicate (if its.toArray.isEmpty = true then 0 else k.toNat) its.toArray) = (List.replicate k.toNat its).flatten.toArray := by
        have f0 : ∀ m : Nat, List.foldl (fun x1 x2 => x1 ++ x2) #[] (List.replicate m its.toArray) = (List.replicate m its).flatten.toArray := fun m => by
          have := foldl_rep its m []
          rw [List.nil_append] at this
          exact this
        rw [f0]
        cases its with
        | nil => simp
        | cons a r' => rw [if_neg (by simp)]
      refine wpAny_binaryOp_repeat_ref (T := "list") (U := "int") (by decide) ⟨_, eo, rfl⟩ (fun s' => typeIs_int s' k tk) noFill_list_mul F.fills_int_mul F.slot_int_rmul repeat_list F.slot_int_index.lookup
        (call_meets F.slot_int_rmul (typeIs_int s k tk) F.entry_int_rmul (F.args_int_rmul_2 _ _) (int___rmul___int_list k tk a its.toArray n)
          ⟨eo, rfl, ⟨_, eo, rfl⟩, call_meets F.slot_list_mul ⟨_, eo, rfl⟩ F.entry_list_mul (F.args_list_mul_2 _ _) (AutoListH.list___mul___list_int_3 a its.toArray n k tk hfit hcap hlong) ⟨eo, ?_⟩⟩)
      rw [hnew]
      exact new_lst I (tk := s.toks) (n := 0) (h' := s.heap) hM (fun _ _ h => h) (r.rep k.toNat) (by rw [PyProof.Rows.lm_len_rep_flat, Nat.mul_comm, hl2]; rw [List.size_toArray] at hlen; exact hlen) (rep_cl c _) fun p H' g _ nm c' => q _ H' g (co_cl nm c')
    · cases e
  · cases e
end
end PX

namespace PX
open PySem PySem.Spec PyProof.Rows L2

/-! ### what a def promises -/
/-- of data to data -/
def spF (P : Program) (w : World) (K : Frag) (ar : Nat) (m : List D → Option D) : Sp := fun vs H Q _ => ∃ (M : Prot) (ds : List D) (r : D), (∀ a, M a → ∃ o, H a = some o) ∧ vs.length = ar ∧ ClA P w K M H ds vs ∧ m ds = some r ∧
  ∀ v H', Ext (fun _ => False) M H H' → (∀ a, M a → ∃ o, H' a = some o) → Cl P w K M H' r v → Q v H'
/-- the argument at place k is a list or dict that it may change: c is what stands there -/
def spM (P : Program) (w : World) (K : Frag) (k ar : Nat) (m : D → List D → Option (D × D)) : Sp := fun vs H Q _ => ∃ (M : Prot) (a : Addr) (pre post : List V) (c : D) (ds : List D) (r c' : D), (∀ a, M a → ∃ o, H a = some o) ∧ vs = pre ++ .ref a :: post ∧ pre.length = k ∧ vs.length = ar ∧
  M a ∧ Co P w K M H c a ∧ ClA P w K M H ds (pre ++ post) ∧ m c ds = some (r, c') ∧
  ∀ v H', Ext (fun b => b = a) M H H' → (∀ a, M a → ∃ o, H' a = some o) → Co P w K M H' c' a → Cl P w K M H' r v → Q v H'
def sCall (m : List D → Option D) (f : SemA) : SemE := fun ρ => (f ρ).bind fun r => (clA r.1).bind fun ds => (m ds).bind fun z => some (.cl z, r.2)
def setMu (ρ : En) (i : Nat) (c : D) : En := match ρ[i]? with | some (.mu o _) => ρ.set i (.mu o c) | _ => ρ
def sCallM (k : Nat) (m : D → List D → Option (D × D)) (f : SemA) : SemE := fun ρ => (f ρ).bind fun r => match r.1.drop k with
  | .sl i :: post => (clA (r.1.take k ++ post)).bind fun ds => (muO r.2 i).bind fun c => (m c ds).bind fun z => some (.cl z.1, setMu r.2 i z.2)
  | _ => none
section
variable {P : Program} {w : World} {K : Frag} {W M : Prot} {ρ ρ' : En} {σ : L2.St} {H H' : Hp}
theorem ER.ext0 (e : ER P w K W M ρ σ H) (x : Ext (fun _ => False) M H H') : ER P w K W M ρ σ H' where
  wm := e.wm
  md := fun a h => let ⟨o, q⟩ := e.md a h; ⟨o, (x a o q fun z => z).2 h⟩
  len := e.len
  pu := fun i d h => let ⟨v, h1, h2⟩ := e.pu i d h; ⟨v, h1, h2.mv (x.mv fun _ z => z.elim)⟩
  mu := fun i o d h => let ⟨a, h1, h2, h3⟩ := e.mu i o d h; ⟨a, h1, h2, Co.mv (x.mv fun _ z => z.elim) h3 fun o q => (x a o q fun z => z).2 (e.wm a h2)⟩
  dj := e.dj
theorem Ext.of0 (x : Ext (fun _ => False) M H H') : Ext W M H H' := fun b o h _ => x b o h fun z => z
theorem muO_some {i : Nat} {c : D} (h : muO ρ i = some c) : ∃ o, ρ[i]? = some (.mu o c) := by
  unfold muO at h
  split at h
  · rename_i o d q
    cases h
    exact ⟨o, q⟩
  · cases h
theorem setMu_get {i : Nat} {c c0 : D} {o : Bool} (h : ρ[i]? = some (.mu o c0)) : setMu ρ i c = ρ.set i (.mu o c) := by
  unfold setMu
  rw [h]
theorem lt_of_some {α : Type} {l : List α} {i : Nat} {x : α} (h : l[i]? = some x) : i < l.length := by
  by_cases q : i < l.length
  · exact q
  · rw [List.getElem?_eq_none (by omega)] at h; cases h
theorem shp_set {i : Nat} {c c0 : D} {o : Bool} (h : ρ[i]? = some (.mu o c0)) : Shp ρ (ρ.set i (.mu o c)) := by
  refine ⟨List.length_set, fun j => ?_, fun j d q => ?_⟩
  · unfold moO
    by_cases hj : i = j
    · subst hj
      rw [h, List.getElem?_set_self (lt_of_some h)]
    · rw [List.getElem?_set_ne hj]
  · by_cases hj : i = j
    · subst hj
      rw [List.getElem?_set_self (lt_of_some h)] at q
      cases q
    · rwa [List.getElem?_set_ne hj] at q
/-- the object of one slot has changed -/
theorem ER.chg (e : ER P w K W M ρ σ H) {i : Nat} {o : Bool} {c c' : D} {a : Addr} (h : ρ[i]? = some (.mu o c)) (ha : σ[i]? = some (some (.ref a))) (x : Ext (fun b => b = a) M H H') (hM : ∀ a, M a → ∃ o, H' a = some o) (co : Co P w K M H' c' a) :
    ER P w K W M (ρ.set i (.mu o c')) σ H' where
  wm := e.wm
  md := hM
  len := by rw [List.length_set]; exact e.len
  pu := fun j d q => by
    by_cases hj : i = j
    · subst hj
      rw [List.getElem?_set_self (lt_of_some h)] at q
      cases q
    · rw [List.getElem?_set_ne hj] at q
      obtain ⟨v, h1, h2⟩ := e.pu j d q
      obtain ⟨a', q1, q2, _⟩ := e.mu i o c h
      rw [ha] at q1; cases q1
      exact ⟨v, h1, h2.mv (x.mv fun b z => z ▸ e.wm _ q2)⟩
  mu := fun j o' d q => by
    obtain ⟨a', q1, q2, _⟩ := e.mu i o c h
    rw [ha] at q1; cases q1
    by_cases hj : i = j
    · subst hj
      rw [List.getElem?_set_self (lt_of_some h)] at q
      cases q
      exact ⟨a, ha, q2, co⟩
    · rw [List.getElem?_set_ne hj] at q
      obtain ⟨b, h1, h2, h3⟩ := e.mu j o' d q
      have hb : b ≠ a := fun z => hj (e.dj i j o o' c d a h q ha (z ▸ h1))
      exact ⟨b, h1, h2, Co.mv (x.mv fun b z => z ▸ e.wm _ q2) h3 fun u hu => (x b u hu hb).2 (e.wm b h2)⟩
  dj := fun j k o1 o2 d1 d2 b h1 h2 h3 h4 => by
    have f : ∀ (j : Nat) (o1 : Bool) (d1 : D), (ρ.set i (Slot.mu o c'))[j]? = some (Slot.mu o1 d1) → ∃ (o2 : Bool) (d2 : D), ρ[j]? = some (Slot.mu o2 d2) := fun j o1 d1 q => by
      by_cases hj : i = j
      · subst hj; exact ⟨_, _, h⟩
      · rw [List.getElem?_set_ne hj] at q
        exact ⟨_, _, q⟩
    obtain ⟨_, _, q1⟩ := f j o1 d1 h1
    obtain ⟨_, _, q2⟩ := f k o2 d2 h2
    exact e.dj j k _ _ _ _ b q1 q2 h3 h4
theorem paired_drop {α β : Type} {R : α → β → Prop} : ∀ {xs : List α} {ys : List β} (k : Nat), Paired R xs ys → Paired R (xs.drop k) (ys.drop k)
  | _, _, 0, h => h
  | _, _, k + 1, .nil => .nil
  | _, _, k + 1, .cons a t => paired_drop k t
theorem paired_take {α β : Type} {R : α → β → Prop} : ∀ {xs : List α} {ys : List β} (k : Nat), Paired R xs ys → Paired R (xs.take k) (ys.take k)
  | _, _, 0, h => .nil
  | _, _, k + 1, .nil => .nil
  | _, _, k + 1, .cons a t => .cons a (paired_take k t)
end
section
variable {X : Cx} {e : Expr} {es : List Expr} {fa : SemA} {x : Str} {p pos : Pos} {k ar : Nat} {f : Addr} {fd : FuncData} {ps : List Str}
theorem px_call {m : List D → Option D} (F : FnOk X.prog X.w X.K X.mg X.base CX0 k f fd ps (spF X.prog X.w X.K ar m)) (har : (e :: es).length = ar) (hr : Room k X.A) (hg : Gl X x) (hm : X.mg x = some (.ref f)) (hk : PySem.W.keepIn X.K (.ref f) = true) (hb : Binds X.K fd ps [])
    (ha : PA X (e :: es) (txa X fa)) (hno : ∀ ρ os ρ', fa ρ = some (os, ρ') → os.length = ar) (hdb : (x == ("__debug__" : Str)) = false := by decide)
    (he : starEach (e :: es) X.env = (false, eval e X.env) :: starEach es X.env := by rfl) (hpl : (backTo pos (starEach es X.env)).any (·.1) = false := by rfl) : PE X (.Call (.Name x p) (e :: es) [] pos) (tx X (sCall m fa)) :=
  PE.wk (pe_call F hr hg hm hk hb .nil pass0 ha hdb he hpl) fun σ H Q ⟨W, M, ρ, er, o, ρ', e, k⟩ => by
    obtain ⟨⟨os, ρ1⟩, e1, e⟩ := bnd e
    obtain ⟨ds, e2, e⟩ := bnd e
    obtain ⟨z, e3, e⟩ := bnd e
    cases e
    refine ⟨W, M, ρ, er, os, ρ1, e1, fun vs H1 er1 x1 s1 v1 => ?_⟩
    show spF _ _ _ _ _ (vs ++ []) H1 Q _
    rw [List.append_nil]
    exact ⟨M, ds, z, er1.md, (by rw [← v1.length]; exact hno _ _ _ e1), vo_clA v1 e2, e3, fun v H2 x2 hM c => k v H2 (er1.ext0 x2) (x1.trans (Ext.of0 x2)) s1 c⟩
theorem px_callM {m : D → List D → Option (D × D)} {kk : Nat} (F : FnOk X.prog X.w X.K X.mg X.base CX0 k f fd ps (spM X.prog X.w X.K kk ar m)) (hr : Room k X.A) (hg : Gl X x) (hm : X.mg x = some (.ref f)) (hk : PySem.W.keepIn X.K (.ref f) = true) (hb : Binds X.K fd ps [])
    (ha : PA X (e :: es) (txa X fa)) (hno : ∀ ρ os ρ', fa ρ = some (os, ρ') → os.length = ar) (hdb : (x == ("__debug__" : Str)) = false := by decide)
    (he : starEach (e :: es) X.env = (false, eval e X.env) :: starEach es X.env := by rfl) (hpl : (backTo pos (starEach es X.env)).any (·.1) = false := by rfl) : PE X (.Call (.Name x p) (e :: es) [] pos) (tx X (sCallM kk m fa)) :=
  PE.wk (pe_call F hr hg hm hk hb .nil pass0 ha hdb he hpl) fun σ H Q ⟨W, M, ρ, er, o, ρ', e, k⟩ => by
    obtain ⟨⟨os, ρ1⟩, e1, e⟩ := bnd e
    refine ⟨W, M, ρ, er, os, ρ1, e1, fun vs H1 er1 x1 s1 v1 => ?_⟩
    show spM _ _ _ _ _ _ (vs ++ []) H1 Q _
    rw [List.append_nil]
    dsimp only at e
    split at e
    · rename_i i post hd
      obtain ⟨ds, e2, e⟩ := bnd e
      obtain ⟨c, e3, e⟩ := bnd e
      obtain ⟨z, e4, e⟩ := bnd e
      cases e
      have hv := paired_drop kk v1
      rw [hd] at hv
      have hv2 := paired_take kk v1
      cases hvd : vs.drop kk with
      | nil => rw [hvd] at hv; cases hv
      | cons y ys =>
        rw [hvd] at hv
        cases hv with
        | cons hy hys =>
          obtain ⟨ow, hsl⟩ := muO_some e3
          obtain ⟨a, q1, q2, q3⟩ := er1.mu i ow c hsl
          have hya : y = .ref a := by
            have := hy.1
            rw [q1] at this
            exact (Option.some.inj (Option.some.inj this)).symm
          subst hya
          have evs : vs = vs.take kk ++ .ref a :: ys := by rw [← hvd, List.take_append_drop]
          have hlen : kk ≤ vs.length := by
            have := congrArg List.length hvd
            rw [List.length_drop, List.length_cons] at this
            omega
          refine ⟨M, a, vs.take kk, ys, c, ds, z.1, z.2, er1.md, evs, by rw [List.length_take]; omega, by rw [← v1.length]; exact hno _ _ _ e1, er1.wm a q2, q3, vo_clA (paired_app hv2 hys) e2, e4, fun v H2 x2 hM co cv => ?_⟩
          rw [setMu_get hsl] at k
          refine k v H2 (er1.chg hsl q1 x2 hM co) (x1.trans fun b u hb nw => x2 b u hb fun z => nw (z ▸ q2)) (s1.trans (shp_set hsl)) cv
    · cases e
end

/-! ### statements -/
structure Fen where
  W0 : Prot
  M0 : Prot
  H0 : Hp
  P0 : Nat → Option Addr
  G0 : List (D × V)
structure SR (P : Program) (w : World) (K : Frag) (F : Fen) (W M : Prot) (ρ : En) (σ : L2.St) (H : Hp) : Prop where
  er : ER P w K W M ρ σ H
  m0 : ∀ a, F.M0 a → M a
  w0 : ∀ a, W a → F.W0 a ∨ F.H0 a = none
  md0 : ∀ a, F.M0 a → ∃ o, F.H0 a = some o
  wz : ∀ a, F.W0 a → F.M0 a
  ext : Ext F.W0 F.M0 F.H0 H
  ow : ∀ (i : Nat) (d : D) (a : Addr), ρ[i]? = some (.mu true d) → σ[i]? = some (some (.ref a)) → F.H0 a = none
  pa : ∀ (i : Nat) (a : Addr), F.P0 i = some a → (∃ d : D, ρ[i]? = some (.mu false d)) ∧ σ[i]? = some (some (.ref a))
  gh : ∀ p ∈ F.G0, Cl P w K M H p.1 p.2
inductive Out where
  | nx (ρ : En) | rt (d : D) (ρ : En) | bk (ρ : En) | ct (ρ : En)
abbrev SemS := En → Option Out
def endOf (P : Program) (w : World) (K : Frag) (F : Fen) (E : Ends) : Out → Prop
  | .nx ρ => ∀ W M σ H, SR P w K F W M ρ σ H → E.nx σ H
  | .rt d ρ => ∀ W M σ H v, SR P w K F W M ρ σ H → Cl P w K M H d v → E.rt v H
  | .bk ρ => ∀ W M σ H, SR P w K F W M ρ σ H → E.bk σ H
  | .ct ρ => ∀ W M σ H, SR P w K F W M ρ σ H → E.ct σ H
def tS (P : Program) (w : World) (K : Frag) (g : SemS) : TS := fun E σ H => ∃ F W M ρ, SR P w K F W M ρ σ H ∧ ∃ out, g ρ = some out ∧ endOf P w K F E out
abbrev txs (X : Cx) (g : SemS) : TS := tS X.prog X.w X.K g
theorem PS.wk {X : Cx} {st : Stmt} {t t' : TS} (h : PS X st t) (i : ∀ E σ H, t' E σ H → t E σ H) : PS X st t' := ⟨fun pins s σ H D I q => h.run pins s σ H D I (i D σ H q)⟩
theorem PSs.wk {X : Cx} {st : List Stmt} {t t' : TS} (h : PSs X st t) (i : ∀ E σ H, t' E σ H → t E σ H) : PSs X st t' := ⟨fun pins s σ H D I q => h.run pins s σ H D I (i D σ H q)⟩
section
variable {P : Program} {w : World} {K : Frag} {F : Fen} {W M : Prot} {ρ ρ' : En} {σ : L2.St} {H H' : Hp}
theorem moO_mu {i : Nat} {o : Bool} {d : D} (h : ρ[i]? = some (.mu o d)) : moO ρ i = some o := by unfold moO; rw [h]
theorem mu_moO {i : Nat} {o : Bool} (h : moO ρ i = some o) : ∃ d, ρ[i]? = some (.mu o d) := by
  unfold moO at h
  split at h
  · rename_i o' d q
    cases h
    exact ⟨d, q⟩
  · cases h
/-- behind an expression -/
theorem SR.step (s : SR P w K F W M ρ σ H) (er : ER P w K W M ρ' σ H') (x : Ext W M H H') (sh : Shp ρ ρ') : SR P w K F W M ρ' σ H' where
  er := er
  m0 := s.m0
  w0 := s.w0
  md0 := s.md0
  wz := s.wz
  ext := fun b o h nw => by
    obtain ⟨⟨o1, e1, k1⟩, m1⟩ := s.ext b o h nw
    have nW : ¬ W b := fun z => by
      rcases s.w0 b z with q | q
      · exact nw q
      · rw [q] at h; cases h
    obtain ⟨⟨o2, e2, k2⟩, m2⟩ := x b o1 e1 nW
    refine ⟨⟨o2, e2, k1.trans k2⟩, fun hm => ?_⟩
    have e3 := m1 hm
    rw [e3] at e1
    cases e1
    exact m2 (s.m0 b hm)
  ow := fun i d a h ha => by
    have : moO ρ i = some true := (sh.2 i).trans (moO_mu h)
    obtain ⟨d', q⟩ := mu_moO this
    exact s.ow i d' a q ha
  pa := fun i a h => by
    obtain ⟨⟨d, q⟩, h2⟩ := s.pa i a h
    exact ⟨mu_moO ((sh.2 i).symm.trans (moO_mu q)), h2⟩
  gh := fun p hp => (s.gh p hp).mv (x.mv s.er.wm)
end
def sSeq (g h : SemS) : SemS := fun ρ => (g ρ).bind fun o => match o with | .nx ρ' => h ρ' | o => some o
def sDone : SemS := fun ρ => some (.nx ρ)
section
variable {X : Cx} {st : Stmt} {rest : List Stmt} {g h : SemS} {pos : Pos} {f : SemE} {t : SemT} {e : Expr}
theorem px_snil : PSs X [] (txs X sDone) := PSs.wk pss_nil fun E σ H ⟨F, W, M, ρ, sr, out, e, k⟩ => by
  cases e
  exact k W M σ H sr
theorem px_scons (h1 : PS X st (txs X g)) (h2 : PSs X rest (txs X h)) : PSs X (st :: rest) (txs X (sSeq g h)) :=
  PSs.wk (pss_cons h1 h2) fun E σ H ⟨F, W, M, ρ, sr, out, e, k⟩ => by
    obtain ⟨o, e1, e⟩ := bnd e
    refine ⟨F, W, M, ρ, sr, o, e1, ?_⟩
    cases o with
    | nx ρ' => exact fun W' M' σ' H' sr' => ⟨F, W', M', ρ', sr', out, e, k⟩
    | rt d ρ' => cases e; exact k
    | bk ρ' => cases e; exact k
    | ct ρ' => cases e; exact k
theorem px_sone (h1 : PS X st (txs X g)) : PSs X [st] (txs X g) := pss_one h1
/-- a statement that is not come to -/
def sNever : SemS := fun _ => none
theorem px_never : PS X st (txs X sNever) := PS.wk ps_never fun E σ H ⟨F, W, M, ρ, sr, out, e, k⟩ => nomatch e
def sPass : SemS := sDone
theorem px_pass : PS X (.Pass pos) (txs X sPass) := PS.wk ps_pass fun E σ H ⟨F, W, M, ρ, sr, out, e, k⟩ => by
  cases e
  exact k W M σ H sr
def sRet (f : SemE) : SemS := fun ρ => (f ρ).bind fun r => (clO r.1).bind fun d => some (.rt d r.2)
theorem px_ret (he : PE X e (tx X f)) : PS X (.Return (some e) pos) (txs X (sRet f)) := PS.wk (ps_ret he) fun E σ H ⟨F, W, M, ρ, sr, out, e, k⟩ => by
  obtain ⟨⟨o1, ρ1⟩, e1, e⟩ := bnd e
  obtain ⟨d, e2, e⟩ := bnd e
  cases e
  exact ⟨W, M, ρ, sr.er, o1, ρ1, e1, fun v H1 er1 x1 s1 v1 => k W M σ H1 v (sr.step er1 x1 s1) (v1.clean e2)⟩
/-- a value that is dropped -/
def sDrop (f : SemE) : SemS := fun ρ => (f ρ).bind fun r => some (.nx r.2)
theorem px_drop (he : PE X e (tx X f)) (hs : swapsWith e none pos.line X.env = pure false := by rfl) : PS X (.Expr e pos) (txs X (sDrop f)) := PS.wk (ps_expr he hs) fun E σ H ⟨F, W, M, ρ, sr, out, e, k⟩ => by
  obtain ⟨⟨o1, ρ1⟩, e1, e⟩ := bnd e
  cases e
  exact ⟨W, M, ρ, sr.er, o1, ρ1, e1, fun v H1 er1 x1 s1 v1 => k W M σ H1 (sr.step er1 x1 s1)⟩
def sIfS (t : SemT) (g h : SemS) : SemS := fun ρ => (t ρ).bind fun r => if r.1 = true then g r.2 else h r.2
theorem px_ifs {c : Expr} {a b : List Stmt} (hc : PT X c (txt X t)) (ha : PSs X a (txs X g)) (hb : PSs X b (txs X h)) : PS X (.If c a b pos) (txs X (sIfS t g h)) := PS.wk (ps_if hc ha hb) fun E σ H ⟨F, W, M, ρ, sr, out, e, k⟩ => by
  obtain ⟨⟨o1, ρ1⟩, e1, e⟩ := bnd e
  refine ⟨W, M, ρ, sr.er, o1, ρ1, e1, fun H1 er1 x1 s1 => ?_⟩
  have sr1 := sr.step er1 x1 s1
  dsimp only at e
  cases o1 with
  | true => dsimp only; rw [if_pos rfl] at e ⊢; exact ⟨F, W, M, ρ1, sr1, out, e, k⟩
  | false => dsimp only; rw [if_neg Bool.false_ne_true] at e ⊢; exact ⟨F, W, M, ρ1, sr1, out, e, k⟩
end
end PX

namespace PX
open PySem PySem.Spec PyProof.Rows L2

/-! ### names stored -/
def setP (ρ : En) (i : Nat) (d : D) : Option En := match ρ[i]? with
  | some (.mu false _) => none
  | some _ => some (ρ.set i (.pu d))
  | none => none
section
variable {P : Program} {w : World} {K : Frag} {F : Fen} {W M : Prot} {ρ ρ' : En} {σ : L2.St} {H H' : Hp}
theorem setP_some {i : Nat} {d : D} (h : setP ρ i d = some ρ') : ρ' = ρ.set i (.pu d) ∧ i < ρ.length ∧ ∀ c, ρ[i]? ≠ some (.mu false c) := by
  unfold setP at h
  split at h
  · cases h
  · rename_i x hx q
    cases h
    exact ⟨rfl, lt_of_some q, fun c e => hx c (by rw [q] at e; exact Option.some.inj e)⟩
  · cases h
theorem set_get {i j : Nat} {x y : Slot} (h : (ρ.set i x)[j]? = some y) : (j = i ∧ y = x) ∨ (j ≠ i ∧ ρ[j]? = some y) := by
  by_cases hj : i = j
  · subst hj
    by_cases hi : i < ρ.length
    · rw [List.getElem?_set_self hi] at h
      cases h
      exact .inl ⟨rfl, rfl⟩
    · rw [List.getElem?_eq_none (by rw [List.length_set]; omega)] at h
      cases h
  · rw [List.getElem?_set_ne hj] at h
    exact .inr ⟨fun e => hj e.symm, h⟩
theorem ER.setP (e : ER P w K W M ρ σ H) {i : Nat} {d : D} {v : V} (h : setP ρ i d = some ρ') (c : Cl P w K M H d v) : ER P w K W M ρ' (σ.set i (some v)) H := by
  obtain ⟨rfl, hi, hn⟩ := setP_some h
  have hs : i < σ.length := by rw [e.len]; exact hi
  refine ⟨e.wm, e.md, by rw [List.length_set, List.length_set]; exact e.len, fun j d' q => ?_, fun j o d' q => ?_, fun j k o o' d1 d2 a q1 q2 q3 q4 => ?_⟩
  · rcases set_get q with ⟨rfl, q'⟩ | ⟨hj, q⟩
    · cases q'
      exact ⟨v, List.getElem?_set_self hs, c⟩
    · obtain ⟨u, h1, h2⟩ := e.pu j d' q
      exact ⟨u, by rw [List.getElem?_set_ne (Ne.symm hj)]; exact h1, h2⟩
  · rcases set_get q with ⟨rfl, q'⟩ | ⟨hj, q⟩
    · cases q'
    · obtain ⟨a, h1, h2⟩ := e.mu j o d' q
      exact ⟨a, by rw [List.getElem?_set_ne (Ne.symm hj)]; exact h1, h2⟩
  · rcases set_get q1 with ⟨rfl, q'⟩ | ⟨hj, q1⟩
    · cases q'
    rcases set_get q2 with ⟨rfl, q'⟩ | ⟨hk, q2⟩
    · cases q'
    rw [List.getElem?_set_ne (Ne.symm hj)] at q3
    rw [List.getElem?_set_ne (Ne.symm hk)] at q4
    exact e.dj j k _ _ _ _ a q1 q2 q3 q4
theorem SR.setP (s : SR P w K F W M ρ σ H) {i : Nat} {d : D} {v : V} (h : setP ρ i d = some ρ') (c : Cl P w K M H d v) : SR P w K F W M ρ' (σ.set i (some v)) H := by
  have er := s.er.setP h c
  obtain ⟨rfl, hi, hn⟩ := setP_some h
  refine ⟨er, s.m0, s.w0, s.md0, s.wz, s.ext, fun j d' a q1 q2 => ?_, fun j a q => ?_, s.gh⟩
  · rcases set_get q1 with ⟨rfl, q'⟩ | ⟨hj, q1⟩
    · cases q'
    rw [List.getElem?_set_ne (Ne.symm hj)] at q2
    exact s.ow j d' a q1 q2
  · obtain ⟨⟨d', q1⟩, q2⟩ := s.pa j a q
    have hj : i ≠ j := fun e => by subst e; exact hn _ q1
    exact ⟨⟨d', by rw [List.getElem?_set_ne hj]; exact q1⟩, by rw [List.getElem?_set_ne hj]; exact q2⟩
/-- a new list or dict becomes a slot's own -/
theorem SR.setO (s : SR P w K F W M ρ σ H) {a : Addr} (er : ER P w K W (fun b => M b ∨ b = a) ρ' σ H') (x : Ext W M H H') (sh : Shp ρ ρ') (n : H a = none) (nm : ¬ M a) {d : D} (co : Co P w K (fun b => M b ∨ b = a) H' d a) {i : Nat} (hi : i < ρ'.length) (hn : ∀ c, ρ'[i]? ≠ some (.mu false c)) :
    SR P w K F (fun b => W b ∨ b = a) (fun b => M b ∨ b = a) (ρ'.set i (.mu true d)) (σ.set i (some (.ref a))) H' := by
  have s1 := s.step (er.shr s.er.wm) x sh
  have hs : i < σ.length := by rw [er.len]; exact hi
  have n0 : F.H0 a = none := by
    cases q : F.H0 a with
    | none => rfl
    | some o =>
      exfalso
      by_cases hw : F.W0 a
      · exact nm (s.m0 a (s.wz a hw))
      · obtain ⟨⟨o', e, _⟩, _⟩ := s.ext a o q hw
        rw [n] at e; cases e
  have mv : Mv M H (fun b => M b ∨ b = a) H' := ⟨fun b h => h.elim .inl fun z => .inr (z ▸ n), (x.mv s.er.wm).st⟩
  refine ⟨⟨fun b h => h.elim (fun h => .inl (s.er.wm b h)) .inr, er.md, by rw [List.length_set, List.length_set]; exact er.len, fun j d' q => ?_, fun j o d' q => ?_, fun j k o o' d1 d2 b q1 q2 q3 q4 => ?_⟩, fun b h => .inl (s.m0 b h), fun b h => h.elim (s.w0 b) fun z => .inr (z ▸ n0), s.md0, s.wz, s1.ext, fun j d' b q1 q2 => ?_, fun j b q => ?_, fun p hp => (s.gh p hp).mv mv⟩
  · rcases set_get q with ⟨rfl, q'⟩ | ⟨hj, q⟩
    · cases q'
    · obtain ⟨u, h1, h2⟩ := er.pu j d' q
      exact ⟨u, by rw [List.getElem?_set_ne (Ne.symm hj)]; exact h1, h2⟩
  · rcases set_get q with ⟨rfl, q'⟩ | ⟨hj, q⟩
    · cases q'
      exact ⟨a, List.getElem?_set_self hs, .inr rfl, co⟩
    · obtain ⟨b, h1, h2, h3⟩ := er.mu j o d' q
      exact ⟨b, by rw [List.getElem?_set_ne (Ne.symm hj)]; exact h1, .inl h2, h3⟩
  · rcases set_get q1 with ⟨e1, q5⟩ | ⟨hj, q5⟩
    · subst e1
      rcases set_get q2 with ⟨e2, q6⟩ | ⟨hk, q6⟩
      · exact e2.symm
      · rw [List.getElem?_set_self hs] at q3
        rw [List.getElem?_set_ne (Ne.symm hk)] at q4
        obtain ⟨b', h1, h2, _⟩ := er.mu k _ _ q6
        rw [q4] at h1
        cases h1
        cases q3
        exact (nm (s.er.wm _ h2)).elim
    · rcases set_get q2 with ⟨e2, q6⟩ | ⟨hk, q6⟩
      · subst e2
        rw [List.getElem?_set_self hs] at q4
        rw [List.getElem?_set_ne (Ne.symm hj)] at q3
        obtain ⟨b', h1, h2, _⟩ := er.mu j _ _ q5
        rw [q3] at h1
        cases h1
        cases q4
        exact (nm (s.er.wm _ h2)).elim
      · rw [List.getElem?_set_ne (Ne.symm hj)] at q3
        rw [List.getElem?_set_ne (Ne.symm hk)] at q4
        exact er.dj j k _ _ _ _ b q5 q6 q3 q4
  · rcases set_get q1 with ⟨rfl, q'⟩ | ⟨hj, q1⟩
    · rw [List.getElem?_set_self hs] at q2
      cases q2
      exact n0
    · rw [List.getElem?_set_ne (Ne.symm hj)] at q2
      exact s1.ow j d' b q1 q2
  · obtain ⟨⟨d', q1⟩, q2⟩ := s1.pa j b q
    have hj : i ≠ j := fun e => by subst e; exact hn _ q1
    exact ⟨⟨d', by rw [List.getElem?_set_ne hj]; exact q1⟩, by rw [List.getElem?_set_ne hj]; exact q2⟩
/-- a slot's own list or dict is given away: nobody changes it from here on -/
def frz (i : Nat) (ρ : En) : En := match ρ[i]? with
  | some (.mu true d) => ρ.set i (.pu d)
  | _ => ρ
theorem co_clW {a : Addr} {M' : Prot} (nm : ¬ M' a) (hs : ∀ b, M' b → M b) : ∀ {d : D}, Co P w K M H d a → Cl P w K M' H d (.ref a)
  | .list _, ⟨xs, e, c⟩ => ⟨a, xs, rfl, nm, .inl e, c.mv ⟨fun b h => .inl (hs b h), fun b o _ h => ⟨o, h, .refl o⟩⟩⟩
  | .dict _, ⟨es, r, c⟩ => ⟨a, es, rfl, nm, (by
      rcases r with ⟨kvs, r, e⟩ | ⟨xs, vs, r, rv, t, e⟩
      · exact .inl ⟨kvs, .inl r, e⟩
      · exact .inr ⟨xs, vs, .inl r, rv, fun x hx => Mv.tn ⟨fun b h => .inl (hs b h), fun b o _ h => ⟨o, h, .refl o⟩⟩ (t x hx), e⟩), c.mv ⟨fun b h => .inl (hs b h), fun b o _ h => ⟨o, h, .refl o⟩⟩⟩
  | .none, h => h.elim
  | .bool _, h => h.elim
  | .int _, h => h.elim
  | .str _, h => h.elim
  | .tuple _, h => h.elim
theorem SR.frz (s : SR P w K F W M ρ σ H) (i : Nat) : ∃ W' M', SR P w K F W' M' (PX.frz i ρ) σ H := by
  unfold PX.frz
  split
  · rename_i d q
    obtain ⟨a, h1, h2, h3⟩ := s.er.mu i true d q
    have n0 := s.ow i d a q h1
    have hi := lt_of_some q
    have sub : ∀ b, (M b ∧ b ≠ a) → M b := fun b h => h.1
    have mv : Mv M H (fun b => M b ∧ b ≠ a) H := ⟨fun b h => .inl h.1, fun b o _ h => ⟨o, h, .refl o⟩⟩
    refine ⟨fun b => W b ∧ b ≠ a, fun b => M b ∧ b ≠ a, ⟨fun b h => ⟨s.er.wm b h.1, h.2⟩, fun b h => s.er.md b h.1, by rw [List.length_set]; exact s.er.len, fun j d' q' => ?_, fun j o d' q' => ?_, fun j k o o' d1 d2 b q1 q2 q3 q4 => ?_⟩,
      fun b h => ⟨s.m0 b h, fun z => by obtain ⟨o, e⟩ := s.md0 b h; rw [z, n0] at e; cases e⟩, fun b h => s.w0 b h.1, s.md0, s.wz, s.ext, fun j d' b q1 q2 => ?_, fun j b q' => ?_, fun p hp => (s.gh p hp).mv mv⟩
    · rcases set_get q' with ⟨rfl, q''⟩ | ⟨hj, q''⟩
      · cases q''
        exact ⟨.ref a, h1, co_clW (fun z => z.2 rfl) sub h3⟩
      · obtain ⟨u, e1, e2⟩ := s.er.pu j d' q''
        exact ⟨u, e1, e2.mv mv⟩
    · rcases set_get q' with ⟨rfl, q''⟩ | ⟨hj, q''⟩
      · cases q''
      · obtain ⟨b, e1, e2, e3⟩ := s.er.mu j o d' q''
        exact ⟨b, e1, ⟨e2, fun z => hj (s.er.dj j i _ _ _ _ a q'' q (z ▸ e1) h1)⟩, Co.mv mv e3 fun _ h => h⟩
    · rcases set_get q1 with ⟨rfl, q'⟩ | ⟨hj, q1⟩
      · cases q'
      rcases set_get q2 with ⟨rfl, q'⟩ | ⟨hk, q2⟩
      · cases q'
      exact s.er.dj j k _ _ _ _ b q1 q2 q3 q4
    · rcases set_get q1 with ⟨rfl, q'⟩ | ⟨hj, q1⟩
      · cases q'
      exact s.ow j d' b q1 q2
    · obtain ⟨⟨d', q1⟩, q2⟩ := s.pa j b q'
      have hj : i ≠ j := fun e => by subst e; rw [q] at q1; cases q1
      exact ⟨⟨d', by rw [List.getElem?_set_ne hj]; exact q1⟩, q2⟩
  · exact ⟨W, M, s⟩
end
end PX

namespace PX
open PySem PySem.Spec PyProof.Rows L2

/-! ### assignments -/
def sSet (i : Nat) (f : SemE) : SemS := fun ρ => (f ρ).bind fun r => (clO r.1).bind fun d => (setP r.2 i d).bind fun ρ' => some (.nx ρ')
def canSet (ρ : En) (i : Nat) : Bool := match ρ[i]? with
  | some (.mu false _) => false
  | some _ => true
  | none => false
def sSetO (i : Nat) (f : SemE) : SemS := fun ρ => (f ρ).bind fun r => (clO r.1).bind fun d => if canSet r.2 i = true then some (.nx (r.2.set i (.mu true d))) else none
theorem canSet_ok {ρ : En} {i : Nat} (h : canSet ρ i = true) : i < ρ.length ∧ ∀ c, ρ[i]? ≠ some (.mu false c) := by
  unfold canSet at h
  split at h
  · cases h
  · rename_i x hx q
    exact ⟨lt_of_some q, fun c e => hx c (by rw [q] at e; exact Option.some.inj e)⟩
  · cases h
section
variable {X : Cx} {f : SemE} {i : Nat} {x : Str} {e : Expr} {pos pos' : Pos} {E : Ends} {σ : L2.St} {H : Hp}
theorem set_wk (q : txs X (sSet i f) E σ H) : tx X f σ H fun x H1 => E.nx (σ.set i (some x)) H1 := by
  obtain ⟨F, W, M, ρ, sr, out, e, k⟩ := q
  obtain ⟨⟨o1, ρ1⟩, e1, e⟩ := bnd e
  obtain ⟨d, e2, e⟩ := bnd e
  obtain ⟨ρ2, e3, e⟩ := bnd e
  cases e
  exact ⟨W, M, ρ, sr.er, o1, ρ1, e1, fun v H1 er1 x1 s1 v1 => k W M _ H1 ((sr.step er1 x1 s1).setP e3 (v1.clean e2))⟩
theorem setO_wk (n : noSl f) (q : txs X (sSetO i f) E σ H) : txo X f σ H fun x H1 => E.nx (σ.set i (some x)) H1 := by
  obtain ⟨F, W, M, ρ, sr, out, e, k⟩ := q
  obtain ⟨⟨o1, ρ1⟩, e1, e⟩ := bnd e
  obtain ⟨d, e2, e⟩ := bnd e
  dsimp only at e e2
  split at e
  · rename_i ck
    cases e
    obtain ⟨d', ed⟩ := n _ _ _ e1
    subst ed
    cases e2
    obtain ⟨c1, c2⟩ := canSet_ok ck
    exact ⟨W, M, ρ, sr.er, d, ρ1, e1, fun a H1 er1 x1 s1 n nm co => k _ _ _ H1 (sr.setO er1 x1 s1 n nm co c1 c2)⟩
  · cases e
theorem px_set (hN : X.N.Nodup) (hi : X.N[i]? = some x) (hx : Loc X.env.scope x) (he : PE X e (tx X f)) (hs : swapsWith e (some (.Name x pos')) pos.line X.env = pure false := by rfl) (hf : X.fn x = true ∨ X.env.scope.names.lookup x = some .local := by first | exact .inl rfl | exact .inr rfl | assumption) :
    PS X (.Assign [.Name x pos'] e pos) (txs X (sSet i f)) := PS.wk (ps_set hN hi hx he hs hf) fun E σ H q => set_wk q
theorem px_setO (n : noSl f) (hN : X.N.Nodup) (hi : X.N[i]? = some x) (hx : Loc X.env.scope x) (he : PE X e (txo X f)) (hs : swapsWith e (some (.Name x pos')) pos.line X.env = pure false := by rfl) (hf : X.fn x = true ∨ X.env.scope.names.lookup x = some .local := by first | exact .inl rfl | exact .inr rfl | assumption) :
    PS X (.Assign [.Name x pos'] e pos) (txs X (sSetO i f)) := PS.wk (ps_set hN hi hx he hs hf) fun E σ H q => setO_wk n q
/-- a slot given away ahead of a statement -/
def sFrz (i : Nat) (g : SemS) : SemS := fun ρ => g (frz i ρ)
theorem px_frz {st : List Stmt} {g : SemS} (i : Nat) (h : PSs X st (txs X g)) : PSs X st (txs X (sFrz i g)) := PSs.wk h fun E σ H ⟨F, W, M, ρ, sr, out, e, k⟩ => by
  obtain ⟨W', M', sr'⟩ := sr.frz i
  exact ⟨F, W', M', _, sr', out, e, k⟩

/-! ### targets -/
inductive Tg where
  | nm (i : Nat)
  | tp (l : List Tg)
mutual
def asg : Tg → D → En → Option En
  | .nm i, d, ρ => setP ρ i d
  | .tp ts, d, ρ => match d with
    | .tuple ds => asgs ts ds ρ
    | _ => none
def asgs : List Tg → List D → En → Option En
  | [], ds, ρ => match ds with
    | [] => some ρ
    | _ :: _ => none
  | t :: ts, ds, ρ => match ds with
    | [] => none
    | d :: ds => (asg t d ρ).bind fun ρ' => asgs ts ds ρ'
end
mutual
def Tg.sl : Tg → List Nat
  | .nm i => [i]
  | .tp ts => Tg.sls ts
def Tg.sls : List Tg → List Nat
  | [] => []
  | t :: ts => Tg.sl t ++ Tg.sls ts
end
/-- what a target may take: at a tuple target whatever tuple -/
def TIn (P : Program) (w : World) (K : Frag) (M : Prot) (H : Hp) : Tg → D → V → Prop
  | .nm _, d, v => Cl P w K M H d v
  | .tp _, d, v => ∃ ds a xs, d = .tuple ds ∧ v = .ref a ∧ SqT K H a xs ∧ ClA P w K M H ds xs
theorem Cl.tin {P : Program} {w : World} {K : Frag} {M : Prot} {H : Hp} {t : Tg} {d : D} {v : V} {ρ ρ' : En} (c : Cl P w K M H d v) (h : asg t d ρ = some ρ') : TIn P w K M H t d v := by
  cases t with
  | nm i => exact c
  | tp ts =>
    unfold asg at h
    split at h
    · obtain ⟨a, xs, e, t, c⟩ := c
      exact ⟨_, a, xs, rfl, e, t.sq, c⟩
    · cases h
/-- from σ to σ' by a target -/
structure Asd (P : Program) (w : World) (K : Frag) (W M : Prot) (sl : List Nat) (ρ ρ' : En) (σ σ' : L2.St) (H : Hp) : Prop where
  er : ER P w K W M ρ' σ' H
  sr : ∀ F, SR P w K F W M ρ σ H → SR P w K F W M ρ' σ' H
  len : σ'.length = σ.length
  ot : ∀ j, j ∉ sl → σ'[j]? = σ[j]?
  mo : ∀ j, j ∉ sl → ρ'[j]? = ρ[j]?
def tG (P : Program) (w : World) (K : Frag) (t : Tg) : TG := fun v σ H Q => ∃ W M ρ d, ER P w K W M ρ σ H ∧ TIn P w K M H t d v ∧ ∃ ρ', asg t d ρ = some ρ' ∧ ∀ σ', Asd P w K W M t.sl ρ ρ' σ σ' H → Q σ' H
def tGs (P : Program) (w : World) (K : Frag) (ts : List Tg) : TGs := fun vs σ H Q => ∃ W M ρ ds, ER P w K W M ρ σ H ∧ ClA P w K M H ds vs ∧ ∃ ρ', asgs ts ds ρ = some ρ' ∧ ∀ σ', Asd P w K W M (Tg.sls ts) ρ ρ' σ σ' H → Q σ' H
theorem PG.wk {X : Cx} {e : Expr} {t t' : TG} (h : PG X e t) (i : ∀ v σ H Q, t' v σ H Q → t v σ H Q) : PG X e t' := ⟨fun pins s σ H v u Q I r q => h.run pins s σ H v u Q I r (i v σ H Q q)⟩
theorem PGs.wk {X : Cx} {e : List Expr} {t t' : TGs} (h : PGs X e t) (i : ∀ v σ H Q, t' v σ H Q → t v σ H Q) : PGs X e t' := ⟨fun pins s σ H v u Q I r q => h.run pins s σ H v u Q I r (i v σ H Q q)⟩
theorem Asd.refl {P : Program} {w : World} {K : Frag} {W M : Prot} {ρ : En} (er : ER P w K W M ρ σ H) : Asd P w K W M [] ρ ρ σ σ H := ⟨er, fun _ s => s, rfl, fun _ _ => rfl, fun _ _ => rfl⟩
theorem Asd.trans {P : Program} {w : World} {K : Frag} {W M : Prot} {l l' : List Nat} {ρ ρ' ρ'' : En} {σ σ' σ'' : L2.St} (a : Asd P w K W M l ρ ρ' σ σ' H) (b : Asd P w K W M l' ρ' ρ'' σ' σ'' H) : Asd P w K W M (l ++ l') ρ ρ'' σ σ'' H :=
  ⟨b.er, fun F s => b.sr F (a.sr F s), b.len.trans a.len, fun j h => (b.ot j fun z => h (List.mem_append_right _ z)).trans (a.ot j fun z => h (List.mem_append_left _ z)), fun j h => (b.mo j fun z => h (List.mem_append_right _ z)).trans (a.mo j fun z => h (List.mem_append_left _ z))⟩
theorem px_gn (hN : X.N.Nodup) (hi : X.N[i]? = some x) (hx : Loc X.env.scope x) (hf : X.fn x = true ∨ X.env.scope.names.lookup x = some .local := by first | exact .inl rfl | exact .inr rfl | assumption) : PG X (.Name x pos) (tG X.prog X.w X.K (.nm i)) :=
  PG.wk (pg_name hN hi hx hf) fun v σ H Q ⟨W, M, ρ, d, er, c, ρ', e, k⟩ => by
    have c : Cl _ _ _ M H d v := c
    have e : setP ρ i d = some ρ' := e
    refine k _ ⟨er.setP e c, fun F s => s.setP e c, List.length_set, fun j hj => ?_, fun j hj => ?_⟩
    · rw [List.getElem?_set_ne (fun z => hj (by subst z; exact List.mem_singleton.mpr rfl))]
    · obtain ⟨rfl, _, _⟩ := setP_some e
      rw [List.getElem?_set_ne (fun z => hj (by subst z; exact List.mem_singleton.mpr rfl))]
theorem px_gsn : PGs X [] (tGs X.prog X.w X.K []) := PGs.wk pgs_nil fun vs σ H Q ⟨W, M, ρ, ds, er, c, ρ', e, k⟩ => by
  cases ds with
  | nil => cases e; exact ⟨c, k σ (Asd.refl er)⟩
  | cons _ _ => cases e
theorem px_gsc {es : List Expr} {t : Tg} {ts : List Tg} (h1 : PG X e (tG X.prog X.w X.K t)) (h2 : PGs X es (tGs X.prog X.w X.K ts)) (hs : (assignEach (e :: es) X.env).map (·.2) = assign e X.env :: (assignEach es X.env).map (·.2) := by rfl) :
    PGs X (e :: es) (tGs X.prog X.w X.K (t :: ts)) := PGs.wk (pgs_cons h1 h2 hs) fun vs σ H Q ⟨W, M, ρ, ds, er, c, ρ', e, k⟩ => by
  cases ds with
  | nil => cases e
  | cons d ds =>
    obtain ⟨ρ1, e1, e2⟩ := bnd (show (asg t d ρ).bind (fun ρ' => asgs ts ds ρ') = some ρ' from e)
    obtain ⟨v, r, rfl, c1, c2⟩ := c
    exact ⟨v, r, rfl, W, M, ρ, d, er, c1.tin e1, ρ1, e1, fun σ1 a1 => ⟨W, M, ρ1, ds, a1.er, c2, ρ', e2, fun σ2 a2 => k σ2 (a1.trans a2)⟩⟩
theorem px_gt {es : List Expr} {kk n : Nat} {ts : List Tg} (hc : X.calm = true) (h : PGs X es (tGs X.prog X.w X.K ts)) (hl : ts.length = n) (hn : (assignEach es X.env).length = n := by rfl) (hst : (assignEach es X.env).findIdx? (·.1) = none := by rfl) :
    PG X (.Tuple es kk pos) (tG X.prog X.w X.K (.tp ts)) := PG.wk (pg_tup hc h hn hst) fun v σ H Q ⟨W, M, ρ, d, er, ⟨ds, a, xs, ed, ev, t, c⟩, ρ', e, k⟩ => by
  subst ed
  have e : asgs ts ds ρ = some ρ' := e
  have hlen : ∀ (ts : List Tg) (ds : List D) (ρ ρ' : En), asgs ts ds ρ = some ρ' → ts.length = ds.length := by
    intro ts
    induction ts with
    | nil => intro ds ρ ρ' h; cases ds with | nil => rfl | cons _ _ => cases h
    | cons t ts ih =>
      intro ds ρ ρ' h
      cases ds with
      | nil => cases h
      | cons d ds =>
        obtain ⟨ρ1, _, e2⟩ := bnd (show (asg t d ρ).bind (fun ρ' => asgs ts ds ρ') = some ρ' from h)
        rw [List.length_cons, List.length_cons, ih ds ρ1 ρ' e2]
  exact ⟨a, xs, ev, t, by rw [c.length, ← hlen ts ds ρ ρ' e, hl], W, M, ρ, ds, er, c, ρ', e, k⟩
/-- target = value -/
def sAsg (t : Tg) (f : SemE) : SemS := fun ρ => (f ρ).bind fun r => (clO r.1).bind fun d => (asg t d r.2).bind fun ρ' => some (.nx ρ')
theorem px_asg {tg : Expr} {t : Tg} (he : PE X e (tx X f)) (hg : PG X tg (tG X.prog X.w X.K t)) (hs : swapsWithSole [tg] e pos.line X.env = pure false := by rfl) (hw : swappedStores [tg] e X.env = pure none := by rfl)
    (h1 : (assignEach [tg] X.env).map (·.2) = [assign tg X.env] := by rfl) : PS X (.Assign [tg] e pos) (txs X (sAsg t f)) := PS.wk (ps_asg he hg hs hw h1) fun E σ H ⟨F, W, M, ρ, sr, out, e, k⟩ => by
  obtain ⟨⟨o1, ρ1⟩, e1, e⟩ := bnd e
  obtain ⟨d, e2, e⟩ := bnd e
  obtain ⟨ρ2, e3, e⟩ := bnd e
  cases e
  refine ⟨W, M, ρ, sr.er, o1, ρ1, e1, fun v H1 er1 x1 s1 v1 => ?_⟩
  have sr1 := sr.step er1 x1 s1
  exact ⟨W, M, ρ1, d, er1, (v1.clean e2).tin e3, ρ2, e3, fun σ' a => k W M σ' H1 (a.sr F sr1)⟩
/-- a, b = x, y with plain local names -/
def sPar (i j : Nat) (f : SemA) : SemS := fun ρ => (f ρ).bind fun r => (clA r.1).bind fun ds => match ds with
  | [d, d'] => (setP r.2 i d).bind fun ρ1 => (setP ρ1 j d').bind fun ρ2 => some (.nx ρ2)
  | _ => none
theorem px_par {j : Nat} {x y : Str} {a b : Expr} {fa : SemA} {px py pt : Pos} {kt k2 : Nat} {pt2 : Pos} (hc : X.calm = true) (hN : X.N.Nodup) (hi : X.N[i]? = some x) (hj : X.N[j]? = some y) (hij : i ≠ j)
    (hx : X.env.scope.names.lookup x = some .local) (hy : X.env.scope.names.lookup y = some .local) (ha : PA X [a, b] (txa X fa))
    (hw : swappedStores [.Tuple [.Name x px, .Name y py] kt pt] (.Tuple [a, b] k2 pt2) X.env = pure (some [x, y]))
    (hs : swapsWithSole [.Tuple [.Name x px, .Name y py] kt pt] (.Tuple [a, b] k2 pt2) pos.line X.env = pure false := by rfl) :
    PS X (.Assign [.Tuple [.Name x px, .Name y py] kt pt] (.Tuple [a, b] k2 pt2) pos) (txs X (sPar i j fa)) := PS.wk (ps_par hc hN hi hj hij hx hy ha hw hs) fun E σ H ⟨F, W, M, ρ, sr, out, e, k⟩ => by
  obtain ⟨⟨os, ρ1⟩, e1, e⟩ := bnd e
  obtain ⟨ds, e2, e⟩ := bnd e
  refine ⟨W, M, ρ, sr.er, os, ρ1, e1, fun vs H1 er1 x1 s1 v1 => ?_⟩
  have c := vo_clA v1 e2
  dsimp only at e
  split at e
  · obtain ⟨ρ2, e3, e⟩ := bnd e
    obtain ⟨ρ3, e4, e⟩ := bnd e
    cases e
    obtain ⟨v, r, rfl, c1, u, r', rfl, c2, c3⟩ := c
    obtain rfl : r' = [] := c3
    exact ⟨v, u, rfl, k W M _ H1 (((sr.step er1 x1 s1).setP e3 c1).setP e4 c2)⟩
  · cases e
/-- name op= e, ints -/
def sAug (gg : D → D → Option D) (i : Nat) (f : SemE) : SemS := fun ρ => match ρ[i]? with
  | some (.pu a) => (f ρ).bind fun r => (clO r.1).bind fun b => (gg a b).bind fun z => (setP r.2 i z).bind fun ρ' => some (.nx ρ')
  | _ => none
theorem px_aug (hN : X.N.Nodup) (hi : X.N[i]? = some x) (hx : Loc X.env.scope x) (he : PE X e (tx X f)) (hf : X.fn x = true ∨ X.env.scope.names.lookup x = some .local := by first | exact .inl rfl | exact .inr rfl | assumption) :
    PS X (.AugAssign (.Name x pos') .Add e pos) (txs X (sAug (fun a b => match a, b with | .int p, .int q => some (.int (p + q)) | _, _ => none) i f)) := PS.wk (ps_aug hN hi hx he ip_add hf) fun E σ H ⟨F, W, M, ρ, sr, out, e, k⟩ => by
  unfold sAug at e
  split at e
  · rename_i a q
    obtain ⟨⟨o1, ρ1⟩, e1, e⟩ := bnd e
    obtain ⟨d, e2, e⟩ := bnd e
    obtain ⟨z, e3, e⟩ := bnd e
    obtain ⟨ρ2, e4, e⟩ := bnd e
    cases e
    obtain ⟨v, h1, h2⟩ := sr.er.pu i a q
    refine ⟨v, h1, W, M, ρ, sr.er, o1, ρ1, e1, fun u H1 er1 x1 s1 v1 => ?_⟩
    dsimp only at e3
    split at e3
    · cases e3
      have c : u = _ := v1.clean e2
      exact ⟨_, _, h2, c, k W M _ H1 ((sr.step er1 x1 s1).setP e4 rfl)⟩
    · cases e3
  · cases e
end
end PX

namespace PX
open PySem PySem.Spec PyProof.Rows L2

/-! ### a slot's own list changed -/
section
variable {P : Program} {w : World} {K : Frag} {F : Fen} {W M : Prot} {ρ ρ' : En} {σ : L2.St} {H H' : Hp}
theorem ext_upd {a : Addr} {u : HO} : Ext (fun b => b = a) M H (upd H a u) := fun b o h nb => by
  have : upd H a u b = some o := by rw [upd_ne nb]; exact h
  exact ⟨⟨o, this, .refl o⟩, fun _ => this⟩
theorem md_upd (hM : ∀ a, M a → ∃ o, H a = some o) {a : Addr} {u : HO} : ∀ b, M b → ∃ o, upd H a u b = some o := fun b h => by
  by_cases hb : b = a
  · subst hb; exact ⟨u, upd_same⟩
  · rw [upd_ne hb]; exact hM b h
theorem SR.chg (s : SR P w K F W M ρ σ H) {i : Nat} {o : Bool} {c c' : D} {a : Addr} {u : HO} (h : ρ[i]? = some (.mu o c)) (ha : σ[i]? = some (some (.ref a))) (co : Co P w K M (upd H a u) c' a) : SR P w K F W M (ρ.set i (.mu o c')) σ (upd H a u) := by
  obtain ⟨a', q1, q2, _⟩ := s.er.mu i o c h
  rw [ha] at q1; cases q1
  exact s.step (s.er.chg h ha ext_upd (md_upd s.er.md) co) (fun b o hb nw => ext_upd b o hb fun z => nw (z ▸ q2)) (shp_set h)
end
def sApp (i : Nat) (f : SemE) : SemS := fun ρ => match ρ[i]? with
  | some (.mu _ (.list _)) => (f ρ).bind fun r => (clO r.1).bind fun d => match r.2[i]? with
    | some (.mu o (.list ds)) => if ds.length < sizeLine then some (.nx (r.2.set i (.mu o (.list (ds ++ [d]))))) else none
    | _ => none
  | _ => none
def sSubL (i : Nat) (fi fe : SemE) : SemS := fun ρ => (fe ρ).bind fun r => (clO r.1).bind fun d => match r.2[i]? with
  | some (.mu _ (.list _)) => (fi r.2).bind fun r2 => match r2.1 with
    | .cl (.int j) => match r2.2[i]? with
      | some (.mu o (.list ds)) => (ixN ds.length j).bind fun k => some (.nx (r2.2.set i (.mu o (.list (ds.set k d)))))
      | _ => none
    | _ => none
  | _ => none
section
variable {X : Cx} {f fi : SemE} {i : Nat} {x : Str} {e ei : Expr} {pos pos' apos : Pos}
theorem px_app (hN : X.N[i]? = some x) (hv : Vis X.env.scope x) (he : PE X e (tx X f)) (hd : (x == ("__debug__" : Str)) = false := by decide) (hcd : (x == ("__classdict__" : Str)) = false := by decide)
    (hbase : attributeBase (.Name x pos') "append" X.env (eval (.Name x pos') X.env) = eval (.Name x pos') X.env := by rfl)
    (hfew : ((backTo pos (starEach [e] X.env)).all (fun x => !x.1) && (backToKw pos (keywordEach [] X.env)).all (fun x => x.1.isSome)
      && decide ([e].length + ([] : List Keyword).length + (if ([] : List Keyword).isEmpty then 0 else 1) < 30)) = true := by rfl)
    (hline : (apos.endLine == pos.line) = true := by rfl) (hs : starEach [e] X.env = [(false, eval e X.env)] := by rfl) (hsw : swapsWith (.Call (.Attribute (.Name x pos') "append" apos) [e] [] pos) none pos.line X.env = pure false := by rfl) :
    PS X (.Expr (.Call (.Attribute (.Name x pos') "append" apos) [e] [] pos) pos) (txs X (sApp i f)) :=
  PS.wk (ps_expr (pe_bm PySem.F.plainAttrs_list PySem.F.slot_list_append PySem.F.type_list_append mt_append (pe_var hN hv hd hcd) (pa_cons he pa_nil (by rw [hs] <;> rfl)) hbase hfew hline (by rw [hs] <;> rfl) (by rfl)) hsw) fun E σ H ⟨F, W, M, ρ, sr, out, e, k⟩ => by
    unfold sApp at e
    split at e
    · rename_i ow0 ds0 q0
      obtain ⟨⟨o1, ρ1⟩, e1, e⟩ := bnd e
      obtain ⟨d, e2, e⟩ := bnd e
      dsimp only at e e2
      split at e
      · rename_i ow ds q
        split at e
        · rename_i hlen
          cases e
          obtain ⟨a, h1, h2, xs0, h3, _⟩ := sr.er.mu i ow0 _ q0
          refine ⟨.ref a, h1, .inl ⟨rfl, xs0, .inl (.inl h3)⟩, W, M, ρ, sr.er, o1, ρ1, e1, fun v H1 er1 x1 s1 v1 => ?_⟩
          obtain ⟨a', g1, g2, xs, g3, g4⟩ := er1.mu i ow _ q
          rw [h1] at g1; cases g1
          have c := v1.clean e2
          have sr1 := sr.step er1 x1 s1
          have mv : Mv M H1 M (upd H1 a (.lst (xs ++ [v]))) := ext_upd.mv fun b z => z ▸ er1.wm a g2
          refine ⟨a, xs, v, rfl, rfl, g3, by rw [g4.length]; exact hlen, k W M σ _ (sr1.chg q h1 ⟨xs ++ [v], upd_same, ?_⟩)⟩
          exact (g4.mv mv).append ⟨v, [], rfl, c.mv mv, rfl⟩
        · cases e
      · cases e
    · cases e
theorem px_subL (hN : X.N[i]? = some x) (hv : Vis X.env.scope x) (he : PE X e (tx X f)) (hei : PE X ei (tx X fi)) (hd : (x == ("__debug__" : Str)) = false := by decide) (hcd : (x == ("__classdict__" : Str)) = false := by decide)
    (ha : ∀ v, assign (.Subscript (.Name x pos') ei apos) X.env v = (do
      let ov ← holding [v] (eval (.Name x pos') X.env)
      let iv ← holding [v, ov] (eval ei X.env)
      standAt apos
      holding [v, ov, iv] (setItem ov iv v)
      release [v, ov, iv] []) := by intro _; rfl)
    (hs : swapsWithSole [.Subscript (.Name x pos') ei apos] e pos.line X.env = pure false := by rfl) (hw : swappedStores [.Subscript (.Name x pos') ei apos] e X.env = pure none := by rfl)
    (h1 : (assignEach [.Subscript (.Name x pos') ei apos] X.env).map (·.2) = [assign (.Subscript (.Name x pos') ei apos) X.env] := by rfl) :
    PS X (.Assign [.Subscript (.Name x pos') ei apos] e pos) (txs X (sSubL i fi f)) :=
  PS.wk (ps_asg he (pg_sub (pe_var hN hv hd hcd) hei set_list ha) hs hw h1) fun E σ H ⟨F, W, M, ρ, sr, out, e, k⟩ => by
    obtain ⟨⟨o1, ρ1⟩, e1, e⟩ := bnd e
    obtain ⟨d, e2, e⟩ := bnd e
    dsimp only at e e2
    split at e
    · rename_i ow0 ds0 q0
      obtain ⟨⟨o2, ρ2⟩, e3, e⟩ := bnd e
      dsimp only at e
      split at e
      · rename_i j
        split at e
        · rename_i ow ds q
          obtain ⟨kk, e4, e⟩ := bnd e
          cases e
          refine ⟨W, M, ρ, sr.er, o1, ρ1, e1, fun v H1 er1 x1 s1 v1 => ?_⟩
          obtain ⟨a, g1, g2, xs0, g3, _⟩ := er1.mu i ow0 _ q0
          refine ⟨.ref a, g1, W, M, ρ1, er1, _, ρ2, e3, fun iv H2 er2 x2 s2 v2 => ?_⟩
          obtain ⟨a', p1, p2, xs, p3, p4⟩ := er2.mu i ow _ q
          rw [g1] at p1; cases p1
          have c := (v1.mv (x2.mv er1.wm) s2).clean e2
          have sr2 := (sr.step er1 x1 s1).step er2 x2 s2
          have mv : Mv M H2 M (upd H2 a (.lst (xs.set kk v))) := ext_upd.mv fun b z => z ▸ er2.wm a p2
          exact ⟨a, xs, j, kk, rfl, v2, p3, by rw [p4.length]; exact e4, k W M σ _ (sr2.chg q g1 ⟨xs.set kk v, upd_same, (p4.mv mv).set kk (c.mv mv)⟩)⟩
        · cases e
      · cases e
    · cases e
end

/-! ### loops -/
def WkG (P : Program) (w : World) (K : Frag) (t : Tg) (gs : List (D × V)) (J : It) (items : List D) : Prop :=
  ∀ (M : Prot) (H : Hp) (i : Nat), (∀ a, M a → ∃ o, H a = some o) → (∀ p ∈ gs, Cl P w K M H p.1 p.2) →
    (∀ d, items[i]? = some d → J.go i H ∧ ∀ x H', J.yld i H x H' → Gr H H' ∧ (∀ ρ ρ', asg t d ρ = some ρ' → TIn P w K M H' t d x)) ∧ (items.length = i → J.stop i H)
abbrev SemI := En → Option (List D × En)
def tI (P : Program) (w : World) (K : Frag) (t : Tg) (f : SemI) : TI := fun σ H R => ∃ W M ρ, ER P w K W M ρ σ H ∧ ∃ items ρ', f ρ = some (items, ρ') ∧
  ∀ J H' gs, ER P w K W M ρ' σ H' → Ext W M H H' → Shp ρ ρ' → (∀ p ∈ gs, Cl P w K M H' p.1 p.2) → WkG P w K t gs J items → R J H'
def forS (t : Tg) (b : SemS) : List D → En → Option Out
  | [], ρ => some (.nx ρ)
  | d :: ds, ρ => (asg t d ρ).bind fun ρ1 => (b ρ1).bind fun o => match o with
    | .nx ρ2 => forS t b ds ρ2
    | .ct ρ2 => forS t b ds ρ2
    | .bk ρ2 => some (.nx ρ2)
    | .rt d ρ2 => some (.rt d ρ2)
def sFor (t : Tg) (f : SemI) (b : SemS) : SemS := fun ρ => (f ρ).bind fun r => forS t b r.1 r.2
def whileS (c : SemT) (b : SemS) : Nat → En → Option Out
  | 0, _ => none
  | n + 1, ρ => (c ρ).bind fun r => if r.1 = true then (b r.2).bind fun o => match o with
    | .nx ρ2 => whileS c b n ρ2
    | .ct ρ2 => whileS c b n ρ2
    | .bk ρ2 => some (.nx ρ2)
    | .rt d ρ2 => some (.rt d ρ2)
    else some (.nx r.2)
def sWhile (fuel : En → Nat) (c : SemT) (b : SemS) : SemS := fun ρ => whileS c b (fuel ρ) ρ
section
variable {X : Cx} {t : Tg} {f : SemI} {g : SemS} {c : SemT} {tg iter ce : Expr} {body : List Stmt} {pos : Pos} {P : Program} {w : World} {K : Frag} {F : Fen} {W M : Prot} {ρ ρ' : En} {σ : L2.St} {H H' : Hp}
def Fen.gh (F : Fen) (gs : List (D × V)) : Fen := { F with G0 := gs ++ F.G0 }
theorem SR.addG {gs : List (D × V)} (s : SR P w K F W M ρ σ H) (h : ∀ p ∈ gs, Cl P w K M H p.1 p.2) : SR P w K (F.gh gs) W M ρ σ H :=
  ⟨s.er, s.m0, s.w0, s.md0, s.wz, s.ext, s.ow, s.pa, fun p hp => (List.mem_append.mp hp).elim (h p) (s.gh p)⟩
theorem SR.dropG {gs : List (D × V)} (s : SR P w K (F.gh gs) W M ρ σ H) : SR P w K F W M ρ σ H :=
  ⟨s.er, s.m0, s.w0, s.md0, s.wz, s.ext, s.ow, s.pa, fun p hp => s.gh p (List.mem_append_right _ hp)⟩
theorem endOf.addG {gs : List (D × V)} {E : Ends} : ∀ {o : Out}, endOf P w K F E o → endOf P w K (F.gh gs) E o
  | .nx _, h => fun W M σ H s => h W M σ H s.dropG
  | .rt _ _, h => fun W M σ H v s => h W M σ H v s.dropG
  | .bk _, h => fun W M σ H s => h W M σ H s.dropG
  | .ct _, h => fun W M σ H s => h W M σ H s.dropG
theorem px_for (hp : PassesOwn (model X.prog X.w) X.A X.env X.xe) (hc : X.calm = true) (hi : PI X tg iter (tI X.prog X.w X.K t f)) (hg : PG X tg (tG X.prog X.w X.K t)) (hb : PSs X body (txs X g))
    (hs : ∀ x, foldedSetIterable iter X.env x = pure x := by intro _; rfl) : PS X (.For tg iter body [] pos) (txs X (sFor t f g)) :=
  PS.wk (ps_for hp hc hi hg hb hs) fun E σ H ⟨F, W, M, ρ, sr, out, e, k⟩ => by
    obtain ⟨⟨items, ρ1⟩, e1, e⟩ := bnd e
    refine ⟨W, M, ρ, sr.er, items, ρ1, e1, fun J H1 gs er1 x1 s1 hgs wk => ?_⟩
    have sr1 := (sr.step er1 x1 s1).addG hgs
    refine ⟨fun i m σ H => m = items.length - i ∧ i ≤ items.length ∧ ∃ W M ρ out, SR X.prog X.w X.K (F.gh gs) W M ρ σ H ∧ forS t g (items.drop i) ρ = some out ∧ endOf X.prog X.w X.K (F.gh gs) E out,
      ⟨_, rfl, Nat.zero_le _, W, M, ρ1, out, sr1, e, k.addG⟩, ?_⟩
    rintro i m σ H ⟨rfl, hi, W, M, ρ, out, sr, e, k⟩
    obtain ⟨w1, w2⟩ := wk M H i sr.er.md fun p hp => sr.gh p (List.mem_append_left _ hp)
    by_cases hlt : i < items.length
    · rw [List.drop_eq_getElem_cons hlt] at e
      obtain ⟨ρ2, e2, e⟩ := bnd (show (asg t items[i] ρ).bind _ = some out from e)
      obtain ⟨o, e3, e⟩ := bnd e
      obtain ⟨go, yl⟩ := w1 _ (List.getElem?_eq_getElem hlt)
      refine .inr ⟨go, fun σ H => ∃ W M ρ out, SR X.prog X.w X.K (F.gh gs) W M ρ σ H ∧ forS t g (items.drop (i + 1)) ρ = some out ∧ endOf X.prog X.w X.K (F.gh gs) E out, fun σ' H' hN => ⟨items.length - (i + 1), by omega, rfl, hlt, hN⟩, fun x H' hy => ?_⟩
      obtain ⟨gr, ti⟩ := yl x H' hy
      refine ⟨W, M, ρ, _, sr.er.gr gr, ti ρ ρ2 e2, ρ2, e2, fun σ' a => ⟨F.gh gs, W, M, ρ2, a.sr _ (sr.step (sr.er.gr gr) gr.ext .refl), o, e3, ?_⟩⟩
      cases o with
      | nx ρ3 => exact fun W M σ H s => ⟨W, M, ρ3, out, s, e, k⟩
      | ct ρ3 => exact fun W M σ H s => ⟨W, M, ρ3, out, s, e, k⟩
      | bk ρ3 => cases e; exact k
      | rt d ρ3 => cases e; exact k
    · rw [List.drop_eq_nil_of_le (by omega)] at e
      cases e
      exact .inl ⟨w2 (by omega), k W M σ H sr⟩
theorem px_while (fuel : En → Nat) (hp : PassesOwn (model X.prog X.w) X.A X.env X.xe) (hc : PT X ce (txt X c)) (hb : PSs X body (txs X g)) : PS X (.While ce body [] pos) (txs X (sWhile fuel c g)) :=
  PS.wk (ps_while hp hc hb) fun E σ H ⟨F, W, M, ρ, sr, out, e, k⟩ => by
    refine ⟨fun m σ H => ∃ W M ρ out, SR X.prog X.w X.K F W M ρ σ H ∧ whileS c g m ρ = some out ∧ endOf X.prog X.w X.K F E out, ⟨fuel ρ, W, M, ρ, out, sr, e, k⟩, ?_⟩
    rintro m σ H ⟨W, M, ρ, out, sr, e, k⟩
    cases m with
    | zero => cases e
    | succ m =>
      obtain ⟨⟨b, ρ1⟩, e1, e⟩ := bnd (show (c ρ).bind _ = some out from e)
      refine ⟨W, M, ρ, sr.er, b, ρ1, e1, fun H1 er1 x1 s1 => ?_⟩
      have sr1 := sr.step er1 x1 s1
      dsimp only at e ⊢
      cases b with
      | true =>
        rw [if_pos rfl] at e ⊢
        obtain ⟨o, e3, e⟩ := bnd e
        refine ⟨fun σ H => ∃ W M ρ out, SR X.prog X.w X.K F W M ρ σ H ∧ whileS c g m ρ = some out ∧ endOf X.prog X.w X.K F E out, fun σ' H' hN => ⟨m, Nat.lt_succ_self _, hN⟩, F, W, M, ρ1, sr1, o, e3, ?_⟩
        cases o with
        | nx ρ3 => exact fun W M σ H s => ⟨W, M, ρ3, out, s, e, k⟩
        | ct ρ3 => exact fun W M σ H s => ⟨W, M, ρ3, out, s, e, k⟩
        | bk ρ3 => cases e; exact k
        | rt d ρ3 => cases e; exact k
      | false =>
        rw [if_neg Bool.false_ne_true] at e ⊢
        cases e
        exact k W M σ H1 sr1
end
end PX

namespace PX
open PySem PySem.Spec PyProof.Rows L2

/-! ### comprehensions -/
def wipeE (ρ : En) : List Nat → En
  | [] => ρ
  | v :: vs => (wipeE ρ vs).set v .un
/-- the own names' slots as they were -/
def unwE (ρ ρf : En) : List Nat → En
  | [] => ρf
  | v :: vs => match ρ[v]? with
    | some x => (unwE ρ ρf vs).set v x
    | none => unwE ρ ρf vs
def noMu (ρ : En) (vs : List Nat) : Bool := vs.all fun i => (moO ρ i).isNone
def compS (t : Tg) (c : SemT) (e : SemE) (vs : List Nat) : List D → En → Option (List D × En)
  | [], ρ => some ([], ρ)
  | d :: ds, ρ => (asg t d ρ).bind fun ρ1 => (c ρ1).bind fun r => if r.1 = true then
      (e r.2).bind fun r2 => (clO r2.1).bind fun y => (compS t c e vs ds (wipeE r2.2 vs)).bind fun r3 => some (y :: r3.1, r3.2)
    else compS t c e vs ds (wipeE r.2 vs)
def sComp (t : Tg) (f : SemI) (c : SemT) (e : SemE) (vs : List Nat) : SemE := fun ρ => (f ρ).bind fun r => if noMu ρ vs = true ∧ (∀ j ∈ t.sl, j ∈ vs) then
  (compS t c e vs r.1 (wipeE r.2 vs)).bind fun r2 => fit r2.1.length (some (.cl (.list r2.1), unwE r.2 r2.2 vs)) else none
theorem noSl_comp {t : Tg} {f : SemI} {c : SemT} {e : SemE} {vs : List Nat} : noSl (sComp t f c e vs) := fun ρ o ρ' h => by
  obtain ⟨r, e1, h⟩ := bnd h
  split at h
  · obtain ⟨r2, e2, h⟩ := bnd h
    obtain ⟨_, h⟩ := fit_some h
    cases h
    exact ⟨_, rfl⟩
  · cases h
section
variable {P : Program} {w : World} {K : Frag} {W M : Prot} {ρ ρ' ρf : En} {σ : L2.St} {H H' : Hp}
theorem wipeE_len : ∀ {vs : List Nat}, (wipeE ρ vs).length = ρ.length
  | [] => rfl
  | v :: vs => by rw [wipeE, List.length_set]; exact wipeE_len
theorem wipeE_get {i : Nat} {x : Slot} : ∀ {vs : List Nat}, (wipeE ρ vs)[i]? = some x → x = .un ∨ (ρ[i]? = some x ∧ i ∉ vs)
  | [], h => .inr ⟨h, by simp⟩
  | v :: vs, h => by
    unfold wipeE at h
    rcases set_get h with ⟨_, q⟩ | ⟨hi, q⟩
    · exact .inl q
    · rcases wipeE_get q with q | ⟨q1, q2⟩
      · exact .inl q
      · exact .inr ⟨q1, by simp only [List.mem_cons, not_or]; exact ⟨hi, q2⟩⟩
theorem wipe_keep {i : Nat} : ∀ {vs : List Nat}, i ∉ vs → (wipe σ vs)[i]? = σ[i]?
  | [], _ => rfl
  | v :: vs, h => by
    unfold wipe
    rw [List.getElem?_set_ne (fun e => h (by subst e; exact List.mem_cons_self))]
    exact wipe_keep fun z => h (List.mem_cons_of_mem _ z)
theorem wipeE_keep {i : Nat} : ∀ {vs : List Nat}, i ∉ vs → (wipeE ρ vs)[i]? = ρ[i]?
  | [], _ => rfl
  | v :: vs, h => by
    unfold wipeE
    rw [List.getElem?_set_ne (fun e => h (by subst e; exact List.mem_cons_self))]
    exact wipeE_keep fun z => h (List.mem_cons_of_mem _ z)
theorem noMu_mu {vs : List Nat} (h : noMu ρ vs = true) {i : Nat} {o : Bool} {d : D} (q : ρ[i]? = some (.mu o d)) : i ∉ vs := fun hm => by
  have := List.all_eq_true.mp h i hm
  rw [moO_mu q] at this
  cases this
theorem ER.wipe (e : ER P w K W M ρ σ H) (vs : List Nat) : ER P w K W M (wipeE ρ vs) (wipe σ vs) H where
  wm := e.wm
  md := e.md
  len := by rw [wipe_length, wipeE_len]; exact e.len
  pu := fun i d h => by
    rcases wipeE_get h with q | ⟨q, hi⟩
    · cases q
    · obtain ⟨v, h1, h2⟩ := e.pu i d q
      exact ⟨v, by rw [wipe_keep hi]; exact h1, h2⟩
  mu := fun i o d h => by
    rcases wipeE_get h with q | ⟨q, hi⟩
    · cases q
    · obtain ⟨v, h1, h2⟩ := e.mu i o d q
      exact ⟨v, by rw [wipe_keep hi]; exact h1, h2⟩
  dj := fun i j o o' d d' a h1 h2 h3 h4 => by
    rcases wipeE_get h1 with q | ⟨q1, hi⟩
    · cases q
    rcases wipeE_get h2 with q | ⟨q2, hj⟩
    · cases q
    rw [wipe_keep hi] at h3
    rw [wipe_keep hj] at h4
    exact e.dj i j _ _ _ _ a q1 q2 h3 h4
theorem unwE_len (h : ρf.length = ρ.length) : ∀ {vs : List Nat}, (unwE ρ ρf vs).length = ρ.length
  | [] => h
  | v :: vs => by
    unfold unwE
    split
    · rw [List.length_set]; exact unwE_len h
    · exact unwE_len h
theorem unwE_out {i : Nat} : ∀ {vs : List Nat}, i ∉ vs → (unwE ρ ρf vs)[i]? = ρf[i]?
  | [], _ => rfl
  | v :: vs, h => by
    unfold unwE
    split
    · rw [List.getElem?_set_ne (fun e => h (by subst e; exact List.mem_cons_self))]
      exact unwE_out fun z => h (List.mem_cons_of_mem _ z)
    · exact unwE_out fun z => h (List.mem_cons_of_mem _ z)
theorem unwE_in (hl : ρf.length = ρ.length) {i : Nat} : ∀ {vs : List Nat}, i ∈ vs → (unwE ρ ρf vs)[i]? = ρ[i]?
  | [], h => absurd h (by simp)
  | v :: vs, h => by
    unfold unwE
    by_cases hv : v = i
    · subst hv
      split
      · rename_i x q
        rw [List.getElem?_set_self (by rw [unwE_len hl]; exact lt_of_some q), q]
      · rename_i q
        rw [q]
        have := List.getElem?_eq_none_iff.mp q
        rw [List.getElem?_eq_none (by rw [unwE_len hl]; exact this)]
    · have hm : i ∈ vs := (List.mem_cons.mp h).resolve_left fun e => hv e.symm
      split
      · rw [List.getElem?_set_ne hv]
        exact unwE_in hl hm
      · exact unwE_in hl hm
/-- back in the block around -/
theorem ER.unw {M0 : Prot} (e0 : ER P w K W M0 ρ σ H) (x : Mv M0 H M H') {vs : List Nat} (nm : noMu ρ vs = true) (ef : ER P w K W M ρf (L2.wipe σ vs) H') (hmo : ∀ i, i ∉ vs → moO ρ i = moO ρf i) (hpu : ∀ (i : Nat) (d : D), i ∉ vs → ρf[i]? = some (.pu d) → ρ[i]? = some (.pu d)) :
    ER P w K W M (unwE ρ ρf vs) σ H' ∧ Shp ρ (unwE ρ ρf vs) := by
  have hl : ρf.length = ρ.length := by rw [← ef.len, wipe_length, e0.len]
  have inn : ∀ i ∈ vs, (unwE ρ ρf vs)[i]? = ρ[i]? := fun i hi => unwE_in hl hi
  have out : ∀ i, i ∉ vs → (unwE ρ ρf vs)[i]? = ρf[i]? := fun i hi => unwE_out hi
  refine ⟨⟨ef.wm, ef.md, by rw [unwE_len hl]; exact e0.len, fun i d h => ?_, fun i o d h => ?_, fun i j o o' d d' a h1 h2 h3 h4 => ?_⟩, unwE_len hl, fun i => ?_, fun i d h => ?_⟩
  · by_cases hi : i ∈ vs
    · rw [inn i hi] at h
      obtain ⟨v, h1, h2⟩ := e0.pu i d h
      exact ⟨v, h1, h2.mv x⟩
    · rw [out i hi] at h
      obtain ⟨v, h1, h2⟩ := ef.pu i d h
      exact ⟨v, by rw [← wipe_keep (σ := σ) hi]; exact h1, h2⟩
  · by_cases hi : i ∈ vs
    · rw [inn i hi] at h
      exact absurd hi (noMu_mu nm h)
    · rw [out i hi] at h
      obtain ⟨v, h1, h2⟩ := ef.mu i o d h
      exact ⟨v, by rw [← wipe_keep (σ := σ) hi]; exact h1, h2⟩
  · by_cases hi : i ∈ vs
    · rw [inn i hi] at h1
      exact absurd hi (noMu_mu nm h1)
    by_cases hj : j ∈ vs
    · rw [inn j hj] at h2
      exact absurd hj (noMu_mu nm h2)
    rw [out i hi] at h1
    rw [out j hj] at h2
    exact ef.dj i j _ _ _ _ a h1 h2 (by rw [wipe_keep hi]; exact h3) (by rw [wipe_keep hj]; exact h4)
  · by_cases hi : i ∈ vs
    · unfold moO
      rw [inn i hi]
    · rw [hmo i hi]
      unfold moO
      rw [out i hi]
  · by_cases hi : i ∈ vs
    · rw [inn i hi] at h; exact h
    · rw [out i hi] at h; exact hpu i d hi h
/-- within: the slots that are not the own ones are the same lists and dicts, the same data -/
structure Wi (vs : List Nat) (ρ ρ' : En) : Prop where
  mo : ∀ i, i ∉ vs → moO ρ i = moO ρ' i
  pu : ∀ (i : Nat) (d : D), i ∉ vs → ρ'[i]? = some (.pu d) → ρ[i]? = some (.pu d)
theorem Wi.trans {vs : List Nat} {ρ'' : En} (a : Wi vs ρ ρ') (b : Wi vs ρ' ρ'') : Wi vs ρ ρ'' := ⟨fun i h => (a.mo i h).trans (b.mo i h), fun i d h q => a.pu i d h (b.pu i d h q)⟩
theorem Shp.wi {vs : List Nat} (s : Shp ρ ρ') : Wi vs ρ ρ' := ⟨fun i _ => s.mo i, fun i d _ q => s.pu i d q⟩
theorem Wi.wipe {vs : List Nat} : Wi vs ρ (wipeE ρ vs) := ⟨fun i h => by unfold moO; rw [wipeE_keep h], fun i d h q => by rw [wipeE_keep h] at q; exact q⟩
theorem Asd.wi {vs l : List Nat} {σ' : L2.St} (a : Asd P w K W M l ρ ρ' σ σ' H) (h : ∀ j ∈ l, j ∈ vs) : Wi vs ρ ρ' := ⟨fun i hi => by unfold moO; rw [a.mo i fun z => hi (h i z)], fun i d hi q => by rw [a.mo i fun z => hi (h i z)] at q; exact q⟩
theorem wipe_ot {σ' : L2.St} {vs l : List Nat} (hl : σ'.length = σ.length) (ho : ∀ j, j ∉ l → σ'[j]? = σ[j]?) (h : ∀ j ∈ l, j ∈ vs) : L2.wipe σ' vs = L2.wipe σ vs := by
  have key : ∀ (us : List Nat) (i : Nat), (L2.wipe σ' us)[i]? = if i ∈ us then (if i < σ.length then some none else none) else σ'[i]? := by
    intro us
    induction us with
    | nil => intro i; simp [L2.wipe]
    | cons u us ih =>
      intro i
      unfold L2.wipe
      by_cases hu : u = i
      · subst hu
        by_cases hlt : u < σ.length
        · rw [List.getElem?_set_self (by rw [wipe_length, hl]; exact hlt)]; simp [hlt]
        · rw [List.getElem?_eq_none (by rw [List.length_set, wipe_length, hl]; omega)]; simp [hlt]
      · rw [List.getElem?_set_ne hu, ih]
        have : (i ∈ u :: us) ↔ i ∈ us := by simp [Ne.symm hu]
        simp only [this]
  have key2 : ∀ (us : List Nat) (i : Nat), (L2.wipe σ us)[i]? = if i ∈ us then (if i < σ.length then some none else none) else σ[i]? := by
    intro us
    induction us with
    | nil => intro i; simp [L2.wipe]
    | cons u us ih =>
      intro i
      unfold L2.wipe
      by_cases hu : u = i
      · subst hu
        by_cases hlt : u < σ.length
        · rw [List.getElem?_set_self (by rw [wipe_length]; exact hlt)]; simp [hlt]
        · rw [List.getElem?_eq_none (by rw [List.length_set, wipe_length]; omega)]; simp [hlt]
      · rw [List.getElem?_set_ne hu, ih]
        have : (i ∈ u :: us) ↔ i ∈ us := by simp [Ne.symm hu]
        simp only [this]
  apply List.ext_getElem?
  intro i
  rw [key, key2]
  by_cases hi : i ∈ vs
  · simp [hi]
  · rw [if_neg hi, if_neg hi, ho i fun z => hi (h i z)]
end
section
variable {X : Cx} {t : Tg} {f : SemI} {c : SemT} {g : SemE} {vs : List Nat} {σ : L2.St} {H : Hp} {Q : VK}
/-- the new list as it grows -/
theorem ext_app {W M : Prot} {H H' : Hp} {D : Addr} {o : HO} (x : Ext W M H H') (n : H D = none) : Ext W M H (upd H' D o) := fun b u h nw => by
  obtain ⟨h1, h2⟩ := x b u h nw
  have hb : b ≠ D := fun z => by rw [z, n] at h; cases h
  rw [upd_ne hb]
  exact ⟨h1, h2⟩
theorem ER.updD {P : Program} {w : World} {K : Frag} {W M : Prot} {ρ : En} {D : Addr} {o : HO} (e : ER P w K W M ρ σ H) (hd : M D) (hw : ¬ W D) : ER P w K W M ρ σ (upd H D o) where
  wm := e.wm
  md := md_upd e.md
  len := e.len
  pu := fun i d h => let ⟨v, h1, h2⟩ := e.pu i d h; ⟨v, h1, h2.mv (ext_upd.mv fun b z => z ▸ hd)⟩
  mu := fun i o' d h => let ⟨a, h1, h2, h3⟩ := e.mu i o' d h; ⟨a, h1, h2, Co.mv (ext_upd.mv fun b z => z ▸ hd) h3 fun u hu => by rw [upd_ne (fun z => hw (by rw [← z]; exact h2))]; exact hu⟩
  dj := e.dj
theorem lc_wk (q : txo X (sComp t f c g vs) σ H Q) : tLc (tI X.prog X.w X.K t f) (tG X.prog X.w X.K t) (txt X c) (tx X g) vs σ H Q := by
  obtain ⟨W, M, ρ, er, d, ρ', e, k⟩ := q
  obtain ⟨⟨items, ρ1⟩, e1, e⟩ := bnd e
  dsimp only at e
  split at e
  · rename_i ck
    obtain ⟨hnm, hsl⟩ := ck
    obtain ⟨⟨ys, ρf⟩, e2, e⟩ := bnd e
    obtain ⟨hfit, e⟩ := fit_some e
    have hfit : ys.length ≤ sizeLine := hfit
    cases e
    refine ⟨W, M, ρ, er, items, ρ1, e1, fun J H1 gs er1 x1 s1 hgs wk D nD => ?_⟩
    have nm1 : noMu ρ1 vs = true := List.all_eq_true.mpr fun i hi => by rw [← s1.mo i]; exact List.all_eq_true.mp hnm i hi
    have nMD : ¬ M D := nm_fresh er1 nD
    have nWD : ¬ W D := fun z => nMD (er.wm D z)
    have wσ : ∀ {M : Prot} {H : Hp} {ρ ρ' : En} {σ2 : L2.St}, Asd X.prog X.w X.K W M t.sl ρ ρ' (wipe σ vs) σ2 H → wipe σ2 vs = wipe σ vs := fun a => (wipe_ot a.len a.ot hsl).trans (wipe_ot (l := vs) (wipe_length σ vs) (fun j hj => wipe_keep hj) fun _ h => h)
    have erD := (er1.wipe vs).frs (Gr.upd (o := .lst []) nD) nD ⟨_, upd_same⟩
    -- the state at turn i
    refine ⟨fun i m H => m = items.length - i ∧ i ≤ items.length ∧ ∃ ρi acc dacc ys', ER X.prog X.w X.K W (fun b => M b ∨ b = D) ρi (wipe σ vs) H ∧ H D = some (.lst acc) ∧ ClA X.prog X.w X.K (fun b => M b ∨ b = D) H dacc acc ∧
        (∀ p ∈ gs, Cl X.prog X.w X.K (fun b => M b ∨ b = D) H p.1 p.2) ∧ Ext W M H1 H ∧ Wi vs ρ1 ρi ∧ compS t c g vs (items.drop i) ρi = some (ys', ρf) ∧ dacc ++ ys' = ys,
      ⟨_, rfl, Nat.zero_le _, wipeE ρ1 vs, [], [], ys, erD, upd_same, rfl, fun p hp => (hgs p hp).mv (mv_fresh nD), (Gr.upd nD).ext, .wipe, e2, rfl⟩, ?_⟩
    rintro i m H2 ⟨rfl, hi, ρi, acc, dacc, ys', eri, hD, hacc, hgi, xi, wii, ei, eys⟩
    obtain ⟨w1, w2⟩ := wk _ H2 i eri.md hgi
    by_cases hlt : i < items.length
    · rw [List.drop_eq_getElem_cons hlt] at ei
      obtain ⟨ρ2, ea, ei⟩ := bnd (show (asg t items[i] ρi).bind _ = some (ys', ρf) from ei)
      obtain ⟨⟨b, ρ3⟩, ec, ei⟩ := bnd ei
      obtain ⟨go, yl⟩ := w1 _ (List.getElem?_eq_getElem hlt)
      refine .inr ⟨go, fun H => ∃ ρi acc dacc ys', ER X.prog X.w X.K W (fun b => M b ∨ b = D) ρi (wipe σ vs) H ∧ H D = some (.lst acc) ∧ ClA X.prog X.w X.K (fun b => M b ∨ b = D) H dacc acc ∧
        (∀ p ∈ gs, Cl X.prog X.w X.K (fun b => M b ∨ b = D) H p.1 p.2) ∧ Ext W M H1 H ∧ Wi vs ρ1 ρi ∧ compS t c g vs (items.drop (i + 1)) ρi = some (ys', ρf) ∧ dacc ++ ys' = ys, fun H' hN => ⟨items.length - (i + 1), by omega, rfl, hlt, hN⟩, fun x H' hy => ?_⟩
      obtain ⟨gr, ti⟩ := yl x H' hy
      have eri' := eri.gr gr
      refine ⟨W, _, ρi, _, eri', ti ρi ρ2 ea, ρ2, ea, fun σ2 a2 => ⟨wσ a2, ?_⟩⟩
      refine ⟨W, _, ρ2, a2.er, b, ρ3, ec, fun H3 er3 x3 s3 => ?_⟩
      have xe : ∀ {Ha Hb : Hp}, Ext W (fun b => M b ∨ b = D) Ha Hb → Ext W M Ha Hb := fun x b o h nw => ⟨(x b o h nw).1, fun hm => (x b o h nw).2 (.inl hm)⟩
      have x13 : Ext W M H1 H3 := (xi.trans gr.ext).trans (xe x3)
      have wi3 : Wi vs ρ1 ρ3 := (wii.trans (a2.wi hsl)).trans s3.wi
      have hD' : H' D = some (.lst acc) := gr D _ hD
      have hD3 : H3 D = some (.lst acc) := (x3 D _ hD' nWD).2 (.inr rfl)
      have mv3 : Mv (fun b => M b ∨ b = D) H2 (fun b => M b ∨ b = D) H3 := ⟨fun b h => .inl h, fun b o nb h => (x3 b o (gr b o h) fun z => nb (a2.er.wm b z)).1⟩
      dsimp only at ei ⊢
      cases b with
      | false =>
        rw [if_neg Bool.false_ne_true] at ei ⊢
        refine ⟨wipeE ρ3 vs, acc, dacc, ys', by rw [← wσ a2]; exact er3.wipe vs, hD3, hacc.mv mv3, fun p hp => (hgi p hp).mv mv3, x13, wi3.trans .wipe, ei, eys⟩
      | true =>
        rw [if_pos rfl] at ei ⊢
        obtain ⟨⟨oy, ρ4⟩, ey, ei⟩ := bnd ei
        obtain ⟨dy, edy, ei⟩ := bnd ei
        obtain ⟨⟨ys2, ρ5⟩, er', ei⟩ := bnd ei
        cases ei
        refine ⟨W, _, ρ3, er3, oy, ρ4, ey, fun y H4 er4 x4 s4 v4 => ?_⟩
        have hD4 : H4 D = some (.lst acc) := (x4 D _ hD3 nWD).2 (.inr rfl)
        have mv4 : Mv (fun b => M b ∨ b = D) H2 (fun b => M b ∨ b = D) H4 := ⟨fun b h => .inl h, fun b o nb h => by
          obtain ⟨o1, e1, k1⟩ := mv3.st b o nb h
          obtain ⟨⟨o2, e2, k2⟩, _⟩ := x4 b o1 e1 fun z => nb (a2.er.wm b z)
          exact ⟨o2, e2, k1.trans k2⟩⟩
        have mvu : Mv (fun b => M b ∨ b = D) H4 (fun b => M b ∨ b = D) (upd H4 D (.lst (acc ++ [y]))) := ext_upd.mv fun b z => z ▸ .inr rfl
        have hlen : acc.length < sizeLine := by
          have h1 := hacc.length
          have h2 : dacc.length + (ys2.length + 1) = ys.length := by rw [← eys, List.length_append, List.length_cons]
          omega
        refine ⟨acc, hD4, hlen, wipeE ρ4 vs, acc ++ [y], dacc ++ [dy], ys2, ?_, upd_same, ?_, fun p hp => ((hgi p hp).mv mv4).mv mvu, ext_app (x13.trans (xe x4)) nD, (wi3.trans s4.wi).trans .wipe, er', by rw [← eys, List.append_assoc]; rfl⟩
        · rw [← wσ a2]
          exact (er4.wipe vs).updD (.inr rfl) nWD
        · exact ((hacc.mv mv4).mv mvu).append ⟨y, [], rfl, (v4.clean edy).mv mvu, rfl⟩
    · rw [List.drop_eq_nil_of_le (by omega)] at ei
      cases ei
      rw [List.append_nil] at eys
      subst eys
      refine .inl ⟨w2 (by omega), ?_⟩
      obtain ⟨u1, u2⟩ := er1.unw ⟨fun b h => h.elim .inl fun z => .inr (z ▸ nD), (xi.mv er.wm).st⟩ nm1 eri wii.mo wii.pu
      exact k D H2 u1 (x1.trans xi) (s1.trans u2) (ext_none x1 er1 nD) nMD ⟨acc, hD, hacc⟩
  · cases e
end
end PX

namespace PX
open PySem PySem.Spec PyProof.Rows L2

def sYes : SemT := fun ρ => some (true, ρ)
section
variable {X : Cx} {t : Tg} {f : SemI} {c : SemT} {g : SemE} {elt tg iter : Expr} {ifs : List Expr} {scope : Scope} {own : List (Str × Nat)} {pos spos : Pos}
theorem px_cnil : PTs X [] (txt X sYes) := ⟨fun pins s σ H Q I ⟨W, M, ρ, er, b, ρ', e, k⟩ => by
  cases e
  exact (pts_nil (X := X)).run pins s σ H Q I (k H er .refl .refl)⟩
theorem px_cone {ce : Expr} (h : PT X ce (txt X c)) : PTs X [ce] (txt X c) := pts_one h
theorem px_lcO (hc : X.calm = true) (hN : X.N.Nodup) (hi : PI X tg iter (tI X.prog X.w X.K t f)) (ok : BlkOk X.N X.env.scope scope own)
    (hg : ∀ (s : Shared) (H : Hp) (C : Addr) (cl : List (Str × Addr)) (fp : List Addr), PG (X.blk s H scope (compEnvC scope cl C X.env) fp) tg (tG X.prog X.w X.K t)) (ht : ∀ (s : Shared) (H : Hp) (C : Addr) (cl : List (Str × Addr)) (fp : List Addr), PTs (X.blk s H scope (compEnvC scope cl C X.env) fp) ifs (tXT X.prog X.w X.K c))
    (he : ∀ (s : Shared) (H : Hp) (C : Addr) (cl : List (Str × Addr)) (fp : List Addr), PE (X.blk s H scope (compEnvC scope cl C X.env) fp) elt (tX X.prog X.w X.K g)) (hs : ∀ x, foldedSetIterable iter X.env x = pure x := by intro _; rfl) :
    PE X (.ListComp elt [⟨tg, iter, ifs, 0⟩] scope pos) (txo X (sComp t f c g (own.map (·.2)))) := PE.wk (pe_lc hc hN hi ok hg ht he hs) fun σ H Q q => lc_wk q
theorem px_lc (hc : X.calm = true) (hN : X.N.Nodup) (hi : PI X tg iter (tI X.prog X.w X.K t f)) (ok : BlkOk X.N X.env.scope scope own)
    (hg : ∀ (s : Shared) (H : Hp) (C : Addr) (cl : List (Str × Addr)) (fp : List Addr), PG (X.blk s H scope (compEnvC scope cl C X.env) fp) tg (tG X.prog X.w X.K t)) (ht : ∀ (s : Shared) (H : Hp) (C : Addr) (cl : List (Str × Addr)) (fp : List Addr), PTs (X.blk s H scope (compEnvC scope cl C X.env) fp) ifs (tXT X.prog X.w X.K c))
    (he : ∀ (s : Shared) (H : Hp) (C : Addr) (cl : List (Str × Addr)) (fp : List Addr), PE (X.blk s H scope (compEnvC scope cl C X.env) fp) elt (tX X.prog X.w X.K g)) (hs : ∀ x, foldedSetIterable iter X.env x = pure x := by intro _; rfl) :
    PE X (.ListComp elt [⟨tg, iter, ifs, 0⟩] scope pos) (tx X (sComp t f c g (own.map (·.2)))) := px_ofO noSl_comp (px_lcO hc hN hi ok hg ht he hs)
theorem px_setLc {i : Nat} {y : Str} {py : Pos} (hc : X.calm = true) (hN : X.N.Nodup) (hy : X.N[i]? = some y) (hyl : X.env.scope.names.lookup y = some .local)
    (hsw : swapsWith (.ListComp elt [⟨tg, iter, ifs, 0⟩] scope pos) (some (.Name y py)) spos.line X.env = pure true) (hi : PI X tg iter (tI X.prog X.w X.K t f)) (ok : BlkOk X.N X.env.scope scope own)
    (hg : ∀ (s : Shared) (H : Hp) (C : Addr) (cl : List (Str × Addr)) (fp : List Addr), PG (X.blk s H scope (compEnvC scope cl C X.env) fp) tg (tG X.prog X.w X.K t)) (ht : ∀ (s : Shared) (H : Hp) (C : Addr) (cl : List (Str × Addr)) (fp : List Addr), PTs (X.blk s H scope (compEnvC scope cl C X.env) fp) ifs (tXT X.prog X.w X.K c))
    (he : ∀ (s : Shared) (H : Hp) (C : Addr) (cl : List (Str × Addr)) (fp : List Addr), PE (X.blk s H scope (compEnvC scope cl C X.env) fp) elt (tX X.prog X.w X.K g)) (hs : ∀ x, foldedSetIterable iter X.env x = pure x := by intro _; rfl) :
    PS X (.Assign [.Name y py] (.ListComp elt [⟨tg, iter, ifs, 0⟩] scope pos) spos) (txs X (sSet i (sComp t f c g (own.map (·.2))))) :=
  PS.wk (ps_setLc hc hN hy hyl hsw hi ok hg ht he hs) fun E σ H q => by
    obtain ⟨F, W, M, ρ, sr, out, e, k⟩ := q
    obtain ⟨⟨o1, ρ1⟩, e1, e⟩ := bnd e
    obtain ⟨d, e2, e⟩ := bnd e
    obtain ⟨ρ2, e3, e⟩ := bnd e
    cases e
    obtain ⟨d', rfl⟩ := noSl_comp _ _ _ e1
    exact lc_wk ⟨W, M, ρ, sr.er, d', ρ1, e1, fun a H1 er1 x1 s1 n nm co => k W M _ H1 ((sr.step (er1.shr sr.er.wm) x1 s1).setP e3 (by cases e2; exact co_cl nm co))⟩
theorem px_setLcO {i : Nat} {y : Str} {py : Pos} (hc : X.calm = true) (hN : X.N.Nodup) (hy : X.N[i]? = some y) (hyl : X.env.scope.names.lookup y = some .local)
    (hsw : swapsWith (.ListComp elt [⟨tg, iter, ifs, 0⟩] scope pos) (some (.Name y py)) spos.line X.env = pure true) (hi : PI X tg iter (tI X.prog X.w X.K t f)) (ok : BlkOk X.N X.env.scope scope own)
    (hg : ∀ (s : Shared) (H : Hp) (C : Addr) (cl : List (Str × Addr)) (fp : List Addr), PG (X.blk s H scope (compEnvC scope cl C X.env) fp) tg (tG X.prog X.w X.K t)) (ht : ∀ (s : Shared) (H : Hp) (C : Addr) (cl : List (Str × Addr)) (fp : List Addr), PTs (X.blk s H scope (compEnvC scope cl C X.env) fp) ifs (tXT X.prog X.w X.K c))
    (he : ∀ (s : Shared) (H : Hp) (C : Addr) (cl : List (Str × Addr)) (fp : List Addr), PE (X.blk s H scope (compEnvC scope cl C X.env) fp) elt (tX X.prog X.w X.K g)) (hs : ∀ x, foldedSetIterable iter X.env x = pure x := by intro _; rfl) :
    PS X (.Assign [.Name y py] (.ListComp elt [⟨tg, iter, ifs, 0⟩] scope pos) spos) (txs X (sSetO i (sComp t f c g (own.map (·.2))))) :=
  PS.wk (ps_setLc hc hN hy hyl hsw hi ok hg ht he hs) fun E σ H q => lc_wk (setO_wk noSl_comp q)
end

/-! ### what is walked -/
theorem pi_seq {X : Cx} {tg l : Expr} {tl : TE} (hl : PE X l tl) : PI X tg l (fun σ H R => tl σ H fun x H1 => ∃ a, x = .ref a ∧ (((∃ xs, SqL X.K H1 a xs) ∧ R (Itl X.K a) H1) ∨ ((∃ xs, SqT X.K H1 a xs) ∧ R (Itt X.K a) H1))) := by
  refine ⟨fun pins s σ H R I h => ?_⟩
  refine thn (hl.run pins s σ H _ I h) fun v s1 ⟨x, H1, I1, r1, q1⟩ => ?_
  obtain ⟨a, e, q⟩ := q1
  subst e
  cases r1
  rcases q with ⟨⟨xs, hq⟩, q⟩ | ⟨⟨xs, hq⟩, q⟩
  · obtain ⟨its, rv, p, hz⟩ := I1.list hq
    refine wpAny_pyIter_list p.isList ?_
    refine ⟨s1.heap.objs.size, [s1.heap.objs.size], _, _, H1, rfl, I1.kept (t' := s1.toks) fun b o e => Heap.get?_push_of_some _ e, turn_list a _, ⟨_, Heap.get?_push_size _ rfl, rfl, rfl⟩, fun b hb => ?_, q⟩
    have e : b = s1.heap.objs.size := by simpa using hb
    subst e
    exact I1.fpOk (Nat.le_refl _) (I1.hok.fresh (Nat.le_refl _))
  · obtain ⟨its, rv, p, hz⟩ := I1.tuple hq
    refine wpAny_pyIter_tuple (show s1.heap.IsTuple a its.toArray from p) ?_
    refine ⟨s1.heap.objs.size, [s1.heap.objs.size], _, _, H1, rfl, I1.kept (t' := s1.toks) fun b o e => Heap.get?_push_of_some _ e, turn_tuple a _, ⟨_, Heap.get?_push_size _ rfl, rfl, rfl⟩, fun b hb => ?_, q⟩
    have e : b = s1.heap.objs.size := by simpa using hb
    subst e
    exact I1.fpOk (Nat.le_refl _) (I1.hok.fresh (Nat.le_refl _))
theorem PI.wk {X : Cx} {tg e : Expr} {t t' : TI} (h : PI X tg e t) (i : ∀ σ H R, t' σ H R → t σ H R) : PI X tg e t' := ⟨fun pins s σ H R I q => h.run pins s σ H R I (i σ H R q)⟩
def sSeq1 (f : SemE) : SemI := fun ρ => (f ρ).bind fun r => (clO r.1).bind fun d => (itemsD d).bind fun ds => some (ds, r.2)
section
variable {X : Cx} {t : Tg} {f g : SemE} {tg a b l : Expr} {p pos : Pos}
theorem wk_list {P : Program} {w : World} {K : Frag} {t : Tg} {ds : List D} {a : Addr} : WkG P w K t [(.list ds, .ref a)] (Itl K a) ds := fun M H i hM hg => by
  obtain ⟨a', xs, e, nm, r, c⟩ := hg _ (List.mem_singleton.mpr rfl)
  cases e
  refine ⟨fun d hd => ?_, fun hi => ⟨xs, .inl r, by rw [c.length]; exact Nat.le_of_eq hi⟩⟩
  obtain ⟨v, h1, h2⟩ := c.get hd
  refine ⟨⟨xs, v, .inl r, h1⟩, fun x H' ⟨eH, hy⟩ => ?_⟩
  subst eH
  refine ⟨.refl, fun ρ ρ' e => ?_⟩
  have := hy xs (.inl r)
  rw [h1] at this
  cases this
  exact h2.tin e
theorem wk_tuple {P : Program} {w : World} {K : Frag} {t : Tg} {ds : List D} {a : Addr} : WkG P w K t [(.tuple ds, .ref a)] (Itt K a) ds := fun M H i hM hg => by
  obtain ⟨a', xs, e, r, c⟩ := hg _ (List.mem_singleton.mpr rfl)
  cases e
  refine ⟨fun d hd => ?_, fun hi => ⟨xs, r.sq, by rw [c.length]; exact Nat.le_of_eq hi⟩⟩
  obtain ⟨v, h1, h2⟩ := c.get hd
  refine ⟨⟨xs, v, r.sq, h1⟩, fun x H' ⟨eH, hy⟩ => ?_⟩
  subst eH
  refine ⟨.refl, fun ρ ρ' e => ?_⟩
  have := hy xs r.sq
  rw [h1] at this
  cases this
  exact h2.tin e
theorem px_iseq (hl : PE X l (tx X f)) : PI X tg l (tI X.prog X.w X.K t (sSeq1 f)) := PI.wk (pi_seq hl) fun σ H R ⟨W, M, ρ, er, items, ρ', e, k⟩ => by
  obtain ⟨⟨o1, ρ1⟩, e1, e⟩ := bnd e
  obtain ⟨d, e2, e⟩ := bnd e
  obtain ⟨ds, e3, e⟩ := bnd e
  cases e
  refine ⟨W, M, ρ, er, o1, ρ1, e1, fun v H1 er1 x1 s1 v1 => ?_⟩
  have c := v1.clean e2
  cases d with
  | list ds' =>
    cases e3
    obtain ⟨a, xs, rfl, nm, r, c'⟩ := id c
    exact ⟨a, rfl, .inl ⟨⟨xs, .inl r⟩, k _ H1 [(.list _, .ref a)] er1 x1 s1 (fun p hp => by rw [List.mem_singleton.mp hp]; exact c) wk_list⟩⟩
  | tuple ds' =>
    cases e3
    obtain ⟨a, xs, rfl, r, c'⟩ := id c
    exact ⟨a, rfl, .inr ⟨⟨xs, r.sq⟩, k _ H1 [(.tuple _, .ref a)] er1 x1 s1 (fun p hp => by rw [List.mem_singleton.mp hp]; exact c) wk_tuple⟩⟩
  | _ => cases e3
/-- range -/
def rangeD (lo : Int) (n : Nat) : List D := (List.range n).map fun (i : Nat) => PyData.int (lo + (i : Int))
def sRng1 (f : SemA) : SemI := fun ρ => (f ρ).bind fun r => match r.1 with
  | [.cl (.int j)] => if -(2 ^ 62) ≤ j ∧ j < 2 ^ 62 then some (rangeD 0 j.toNat, r.2) else none
  | _ => none
def sRng2 (f : SemA) : SemI := fun ρ => (f ρ).bind fun r => match r.1 with
  | [.cl (.int i), .cl (.int j)] => if -(2 ^ 62) ≤ i ∧ i < 2 ^ 62 ∧ -(2 ^ 62) ≤ j ∧ j < 2 ^ 62 then some (rangeD i (j - i).toNat, r.2) else none
  | _ => none
theorem wk_range {P : Program} {w : World} {K : Frag} {t : Tg} {lo : Int} {n : Nat} : WkG P w K t [] (Itr lo n) (rangeD lo n) := fun M H i hM hg => by
  unfold rangeD
  refine ⟨fun d hd => ?_, fun hi => by show n ≤ i; simpa using Nat.le_of_eq hi⟩
  have hi : i < n := by
    have := lt_of_some hd
    simpa using this
  rw [List.getElem?_map, List.getElem?_range hi] at hd
  cases hd
  refine ⟨hi, fun x H' ⟨eH, hx⟩ => ?_⟩
  subst eH hx
  refine ⟨.refl, fun ρ ρ' e => ?_⟩
  cases t with
  | nm j => rfl
  | tp ts => cases e
theorem px_irng1 {fa : SemA} (hg : Gl X "range") (hm : X.mg "range" = none) (ha : PA X [a] (txa X fa)) (hs : starEach [a] X.env = [(false, eval a X.env)] := by rfl) : PI X tg (.Call (.Name "range" p) [a] [] pos) (tI X.prog X.w X.K t (sRng1 fa)) :=
  PI.wk (pi_range1 hg hm ha hs) fun σ H R ⟨W, M, ρ, er, items, ρ', e, k⟩ => by
    obtain ⟨⟨os, ρ1⟩, e1, e⟩ := bnd e
    refine ⟨W, M, ρ, er, os, ρ1, e1, fun vs H1 er1 x1 s1 v1 => ?_⟩
    dsimp only at e
    split at e
    · split at e
      · rename_i j ck
        cases e
        cases v1 with
        | cons h t =>
          cases t
          exact ⟨j, by rw [show _ = V.int j from h], ck.1, ck.2, k _ H1 [] er1 x1 s1 (fun p hp => absurd hp (by simp)) wk_range⟩
      · cases e
    · cases e
theorem px_irng2 {fa : SemA} (hg : Gl X "range") (hm : X.mg "range" = none) (ha : PA X [a, b] (txa X fa)) (hs : starEach [a, b] X.env = [(false, eval a X.env), (false, eval b X.env)] := by rfl) (hs2 : starEach [b] X.env = [(false, eval b X.env)] := by rfl) :
    PI X tg (.Call (.Name "range" p) [a, b] [] pos) (tI X.prog X.w X.K t (sRng2 fa)) :=
  PI.wk (pi_range2 hg hm ha hs hs2) fun σ H R ⟨W, M, ρ, er, items, ρ', e, k⟩ => by
    obtain ⟨⟨os, ρ1⟩, e1, e⟩ := bnd e
    refine ⟨W, M, ρ, er, os, ρ1, e1, fun vs H1 er1 x1 s1 v1 => ?_⟩
    dsimp only at e
    split at e
    · split at e
      · rename_i i j ck
        cases e
        cases v1 with
        | cons h t =>
          cases t with
          | cons h' t =>
            cases t
            exact ⟨i, j, by rw [show _ = V.int i from h, show _ = V.int j from h'], ck, k _ H1 [] er1 x1 s1 (fun p hp => absurd hp (by simp)) wk_range⟩
      · cases e
    · cases e
end

/-! ### a def by its body -/
def stE (n : Nat) (ss : List Slot) : En := ss ++ List.replicate (n - ss.length) .un
def outF : Option Out → Option D
  | some (.rt d _) => some d
  | some (.nx _) => some .none
  | _ => none
def runF (n : Nat) (g : SemS) (ds : List D) : Option D := outF (g (stE n (ds.map Slot.pu)))
/-- slot k is the caller's -/
def runM (n k : Nat) (g : SemS) (c : D) (ds : List D) : Option (D × D) := match g (stE n ((ds.take k).map Slot.pu ++ .mu false c :: (ds.drop k).map Slot.pu)) with
  | some (.rt d ρ) => (muO ρ k).bind fun c' => some (d, c')
  | some (.nx ρ) => (muO ρ k).bind fun c' => some (.none, c')
  | _ => none
section
variable {P : Program} {w : World} {K : Frag} {mg : Str → Option Value} {base : Heap}
theorem stE_get {n : Nat} {ss : List Slot} {i : Nat} {x : Slot} (h : (stE n ss)[i]? = some x) (hx : x ≠ .un) : ss[i]? = some x := by
  unfold stE at h
  by_cases hi : i < ss.length
  · rwa [List.getElem?_append_left hi] at h
  · rw [List.getElem?_append_right (by omega)] at h
    exfalso
    have h2 : i - ss.length < n - ss.length := by
      have := lt_of_some h
      rwa [List.length_replicate] at this
    rw [List.getElem?_replicate, if_pos h2] at h
    cases h
    exact hx rfl
theorem start_get {N : List Str} {vs : List V} {i : Nat} {v : V} (h : vs[i]? = some v) : (L2.start N vs)[i]? = some (some v) := by
  unfold L2.start
  rw [List.getElem?_append_left (by rw [List.length_map]; exact lt_of_some h), List.getElem?_map, h]
  rfl
theorem start_len {N : List Str} {vs : List V} (h : vs.length ≤ N.length) : (L2.start N vs).length = N.length := by
  unfold L2.start
  rw [List.length_append, List.length_map, List.length_replicate]
  omega
/-- the rule for a def of data -/
theorem okF {x qual : Str} {st : Stmt} {f : Addr} {fd : FuncData} {N ps : List Str} {k : Nat} {g : SemS} (F : Fun K x qual st f fd) (S : FnScope N ps (defScope st)) (hps : ps.length ≤ N.length)
    (hbody : ∀ (cdv : Value) (A : Around) (outer : List Env) (s : Shared) (H : Hp) (E : XK), Room k (A.deeper (envOfC qual (defScope st) s.heap.objs.size f cdv)) →
      PSs (cxOf CX0 P w K mg base N qual (defScope st) f cdv A outer s H E).nox (defBody st) (tS P w K g)) : FnOk P w K mg base CX0 (k + 1) f fd ps (spF P w K ps.length (runF N.length g)) := by
  refine F.ok S (fun vs H Q E h => ?_) (fun cdv A outer s H vs Q E hr h => ?_)
  · obtain ⟨M, ds, r, h1, h2, _⟩ := h
    exact h2
  · obtain ⟨M, ds, r, hM, hl, c, e, q⟩ := h
    refine ⟨_, hbody cdv A outer s H E hr, ?_⟩
    have hdl : ds.length = vs.length := c.length.symm
    have er : ER P w K (fun _ => False) M (stE N.length (ds.map Slot.pu)) (L2.start N vs) H := by
      refine ⟨fun _ h => h.elim, hM, ?_, fun i d h => ?_, fun i o d h => ?_, fun i j o o' d d' a h => ?_⟩
      · rw [start_len (by omega), stE, List.length_append, List.length_map, List.length_replicate]; omega
      · have h := stE_get h (by simp)
        rw [List.getElem?_map] at h
        cases hd : ds[i]? with
        | none => rw [hd] at h; cases h
        | some d' =>
          rw [hd] at h
          cases h
          obtain ⟨v, h1, h2⟩ := c.get hd
          exact ⟨v, start_get h1, h2⟩
      · have h := stE_get h (by simp)
        rw [List.getElem?_map] at h
        cases hd : ds[i]? with
        | none => rw [hd] at h; cases h
        | some d' => rw [hd] at h; cases h
      · have h := stE_get h (by simp)
        rw [List.getElem?_map] at h
        cases hd : ds[i]? with
        | none => rw [hd] at h; cases h
        | some d' => rw [hd] at h; cases h
    have sr : SR P w K ⟨fun _ => False, M, H, fun _ => none, []⟩ (fun _ => False) M (stE N.length (ds.map Slot.pu)) (L2.start N vs) H :=
      ⟨er, fun _ h => h, fun _ h => h.elim, hM, fun _ h => h.elim, .refl, (fun i d a h => (by
        have h := stE_get h (by simp)
        rw [List.getElem?_map] at h
        cases hd : ds[i]? with
        | none => rw [hd] at h; cases h
        | some d' => rw [hd] at h; cases h)), (fun _ _ h => nomatch h), fun _ h => absurd h (by simp)⟩
    unfold runF outF at e
    cases ho : g (stE N.length (ds.map Slot.pu)) with
    | none => rw [ho] at e; cases e
    | some out =>
      rw [ho] at e
      refine ⟨_, _, _, _, sr, out, ho, ?_⟩
      cases out with
      | rt d ρ =>
        cases e
        exact fun W' M' σ' H' v sr' cv => q v H' sr'.ext (fun a h => sr'.er.md a (sr'.m0 a h)) (cv.mv ⟨fun b h => .inl (sr'.m0 b h), fun b o _ h => ⟨o, h, .refl o⟩⟩)
      | nx ρ =>
        cases e
        exact fun W' M' σ' H' sr' => q .non H' sr'.ext (fun a h => sr'.er.md a (sr'.m0 a h)) rfl
      | bk ρ => cases e
      | ct ρ => cases e
end
end PX

namespace PX
open PySem PySem.Spec PyProof.Rows L2

/-! ### a def whose first argument is a list of the caller's -/
section
variable {P : Program} {w : World} {K : Frag} {mg : Str → Option Value} {base : Heap}
theorem Co.sub {M M' : Prot} {H : Hp} {c : D} {a : Addr} (h : Co P w K M H c a) (s : ∀ b, M' b → M b) : Co P w K M' H c a :=
  Co.mv ⟨fun b q => .inl (s b q), fun b o _ e => ⟨o, e, .refl o⟩⟩ h fun _ e => e
theorem okM {x qual : Str} {st : Stmt} {f : Addr} {fd : FuncData} {N ps : List Str} {k : Nat} {g : SemS} (F : Fun K x qual st f fd) (S : FnScope N ps (defScope st)) (hps : ps.length ≤ N.length)
    (hbody : ∀ (cdv : Value) (A : Around) (outer : List Env) (s : Shared) (H : Hp) (E : XK), Room k (A.deeper (envOfC qual (defScope st) s.heap.objs.size f cdv)) →
      PSs (cxOf CX0 P w K mg base N qual (defScope st) f cdv A outer s H E).nox (defBody st) (tS P w K g)) : FnOk P w K mg base CX0 (k + 1) f fd ps (spM P w K 0 ps.length (runM N.length 0 g)) := by
  refine F.ok S (fun vs H Q E h => ?_) (fun cdv A outer s H vs Q E hr h => ?_)
  · obtain ⟨M, a, pre, post, c, ds, r, c', h1, h2, h3, h4, _⟩ := h
    exact h4
  · obtain ⟨M, a, pre, post, c, ds, r, c', hM, hv, hp, hl, ma, co, cl, e, q⟩ := h
    refine ⟨_, hbody cdv A outer s H E hr, ?_⟩
    obtain rfl : pre = [] := List.eq_nil_of_length_eq_zero hp
    have hv : vs = .ref a :: post := hv
    have cl : ClA P w K M H ds post := cl
    subst hv
    have hdl : ds.length = post.length := cl.length.symm
    have e0 : (match g (stE N.length (.mu false c :: ds.map Slot.pu)) with
      | some (.rt d ρ) => (muO ρ 0).bind fun c' => some (d, c')
      | some (.nx ρ) => (muO ρ 0).bind fun c' => some (.none, c')
      | _ => none) = some (r, c') := e
    have hsl : ∀ (i : Nat) (d : D), (Slot.mu false c :: ds.map Slot.pu)[i]? = some (.pu d) → ∃ v, (V.ref a :: post)[i]? = some v ∧ Cl P w K M H d v := fun i d h => by
      cases i with
      | zero => simp at h
      | succ i =>
        rw [List.getElem?_cons_succ, List.getElem?_map] at h
        cases hd : ds[i]? with
        | none => rw [hd] at h; cases h
        | some d' =>
          rw [hd] at h
          cases h
          obtain ⟨v, h1, h2⟩ := cl.get hd
          exact ⟨v, by rw [List.getElem?_cons_succ]; exact h1, h2⟩
    have hmu : ∀ (i : Nat) (o : Bool) (d : D), (Slot.mu false c :: ds.map Slot.pu)[i]? = some (.mu o d) → i = 0 ∧ o = false ∧ d = c := fun i o d h => by
      cases i with
      | zero => simp at h; exact ⟨rfl, h.1, h.2.symm⟩
      | succ i =>
        rw [List.getElem?_cons_succ, List.getElem?_map] at h
        cases hd : ds[i]? with
        | none => rw [hd] at h; cases h
        | some d' => rw [hd] at h; cases h
    have s0 : (L2.start N (V.ref a :: post))[0]? = some (some (.ref a)) := start_get rfl
    have hz : (stE N.length (.mu false c :: ds.map Slot.pu))[0]? = some (.mu false c) := by
      unfold stE
      rw [List.getElem?_append_left (by simp)]
      rfl
    have er : ER P w K (fun b => b = a) M (stE N.length (.mu false c :: ds.map Slot.pu)) (L2.start N (V.ref a :: post)) H := by
      refine ⟨fun b h => h ▸ ma, hM, ?_, fun i d h => ?_, fun i o d h => ?_, fun i j o o' d d' b h h' _ _ => ?_⟩
      · rw [start_len (by rw [hl]; exact hps), stE, List.length_append, List.length_cons, List.length_map, List.length_replicate]
        have : (V.ref a :: post).length ≤ N.length := by rw [hl]; exact hps
        rw [List.length_cons] at this
        omega
      · obtain ⟨v, h1, h2⟩ := hsl i d (stE_get h (by simp))
        exact ⟨v, start_get h1, h2⟩
      · obtain ⟨rfl, rfl, rfl⟩ := hmu i o d (stE_get h (by simp))
        exact ⟨a, s0, rfl, co⟩
      · exact (hmu i o d (stE_get h (by simp))).1.trans (hmu j o' d' (stE_get h' (by simp))).1.symm
    have sr : SR P w K ⟨fun b => b = a, M, H, fun i => if i = 0 then some a else none, []⟩ (fun b => b = a) M (stE N.length (.mu false c :: ds.map Slot.pu)) (L2.start N (V.ref a :: post)) H :=
      ⟨er, fun _ h => h, fun _ h => .inl h, hM, fun b h => h ▸ ma, .refl, (fun i d b h => (by
        obtain ⟨_, z, _⟩ := hmu i true d (stE_get h (by simp))
        cases z)), (fun i b h => (by
        dsimp only at h
        split at h
        · rename_i h0
          cases h
          subst h0
          exact ⟨⟨c, hz⟩, s0⟩
        · cases h)), fun _ h => absurd h (by simp)⟩
    have fin : ∀ {W' M' : Prot} {ρ : En} {σ' : L2.St} {H' : Hp} {cc : D}, SR P w K ⟨fun b => b = a, M, H, fun i => if i = 0 then some a else none, []⟩ W' M' ρ σ' H' → muO ρ 0 = some cc →
        Ext (fun b => b = a) M H H' ∧ (∀ b, M b → ∃ o, H' b = some o) ∧ Co P w K M H' cc a := fun {W' M' ρ σ' H' cc} s h => by
      refine ⟨s.ext, fun b h => s.er.md b (s.m0 b h), ?_⟩
      obtain ⟨o, h⟩ := muO_some h
      obtain ⟨b, h1, h2, h3⟩ := s.er.mu 0 o cc h
      obtain ⟨_, h4⟩ := s.pa 0 a rfl
      rw [h1] at h4
      cases h4
      exact h3.sub s.m0
    cases ho : g (stE N.length (.mu false c :: ds.map Slot.pu)) with
    | none => rw [ho] at e0; cases e0
    | some out =>
      rw [ho] at e0
      refine ⟨_, _, _, _, sr, out, ho, ?_⟩
      cases out with
      | rt d ρ =>
        obtain ⟨cc, e1, e2⟩ := bnd e0
        cases e2
        exact fun W' M' σ' H' v sr' cv => q v H' (fin sr' e1).1 (fin sr' e1).2.1 (fin sr' e1).2.2 (cv.mv ⟨fun b h => .inl (sr'.m0 b h), fun b o _ h => ⟨o, h, .refl o⟩⟩)
      | nx ρ =>
        obtain ⟨cc, e1, e2⟩ := bnd e0
        cases e2
        exact fun W' M' σ' H' sr' => q .non H' (fin sr' e1).1 (fin sr' e1).2.1 (fin sr' e1).2.2 rfl
      | bk ρ => cases e0
      | ct ρ => cases e0
end

/-! ### defs by name -/
/-- the def of this name keeps its promise -/
def OkD (P : Program) (w : World) (K : Frag) (mg : Str → Option Value) (base : Heap) (k : Nat) (x : Str) (ps : List Str) (sp : Sp) : Prop :=
  ∃ f fd, FnOk P w K mg base CX0 k f fd ps sp ∧ mg x = some (.ref f) ∧ PySem.W.keepIn K (.ref f) = true ∧ Binds K fd ps []
/-- the def of this name stands in the module -/
def Df (K : Frag) (mg : Str → Option Value) (x : Str) (st : Stmt) (ps : List Str) : Prop :=
  ∃ f fd, Fun K x x st f fd ∧ mg x = some (.ref f) ∧ PySem.W.keepIn K (.ref f) = true ∧ Binds K fd ps []
section
variable {P : Program} {w : World} {K : Frag} {mg : Str → Option Value} {base : Heap}
theorem OkD.mono {j k : Nat} {x : Str} {ps : List Str} {sp : Sp} (h : OkD P w K mg base j x ps sp) (l : j ≤ k) : OkD P w K mg base k x ps sp := by
  obtain ⟨f, fd, h1, h2⟩ := h
  exact ⟨f, fd, h1.mono l, h2⟩
theorem dfF {x : Str} {st : Stmt} {N ps : List Str} {k : Nat} {g : SemS} (D : Df K mg x st ps) (S : FnScope N ps (defScope st)) (hps : ps.length ≤ N.length)
    (hbody : ∀ (f : Addr) (cdv : Value) (A : Around) (outer : List Env) (s : Shared) (H : Hp) (E : XK), Room k (A.deeper (envOfC x (defScope st) s.heap.objs.size f cdv)) →
      PSs (cxOf CX0 P w K mg base N x (defScope st) f cdv A outer s H E).nox (defBody st) (tS P w K g)) : OkD P w K mg base (k + 1) x ps (spF P w K ps.length (runF N.length g)) := by
  obtain ⟨f, fd, F, h1, h2, h3⟩ := D
  exact ⟨f, fd, okF F S hps fun cdv A outer s H E hr => hbody f cdv A outer s H E hr, h1, h2, h3⟩
theorem dfM {x : Str} {st : Stmt} {N ps : List Str} {k : Nat} {g : SemS} (D : Df K mg x st ps) (S : FnScope N ps (defScope st)) (hps : ps.length ≤ N.length)
    (hbody : ∀ (f : Addr) (cdv : Value) (A : Around) (outer : List Env) (s : Shared) (H : Hp) (E : XK), Room k (A.deeper (envOfC x (defScope st) s.heap.objs.size f cdv)) →
      PSs (cxOf CX0 P w K mg base N x (defScope st) f cdv A outer s H E).nox (defBody st) (tS P w K g)) : OkD P w K mg base (k + 1) x ps (spM P w K 0 ps.length (runM N.length 0 g)) := by
  obtain ⟨f, fd, F, h1, h2, h3⟩ := D
  exact ⟨f, fd, okM F S hps fun cdv A outer s H E hr => hbody f cdv A outer s H E hr, h1, h2, h3⟩
/-- a def that promises nothing -/
theorem dfZ {x : Str} {st : Stmt} {N ps : List Str} (D : Df K mg x st ps) (S : FnScope N ps (defScope st)) (hps : ps.length ≤ N.length) : OkD P w K mg base 1 x ps (spF P w K ps.length fun _ => none) := by
  obtain ⟨f, fd, F, h1, h2, h3⟩ := D
  refine ⟨f, fd, F.ok (k := 0) S (fun vs H Q E h => ?_) (fun cdv A outer s H vs Q E hr h => ?_), h1, h2, h3⟩
  · obtain ⟨M, ds, r, h1, h2, _⟩ := h
    exact h2
  · obtain ⟨M, ds, r, h1, h2, h3, h4, _⟩ := h
    cases h4
/-- how many operands -/
def LnA (f : SemA) (n : Nat) : Prop := ∀ ρ os ρ', f ρ = some (os, ρ') → os.length = n
theorem ln_nil : LnA sNil 0 := fun ρ os ρ' e => by cases e; rfl
theorem ln_cons {f : SemE} {g : SemA} {n : Nat} (h : LnA g n) : LnA (sCons f g) (n + 1) := fun ρ os ρ' e => by
  obtain ⟨r1, e1, e⟩ := bnd e
  obtain ⟨r2, e2, e⟩ := bnd e
  cases e
  rw [List.length_cons, h _ _ _ e2]
end
section
variable {X : Cx} {e : Expr} {es : List Expr} {fa : SemA} {x : Str} {p pos : Pos} {k j ar : Nat} {ps : List Str}
theorem px_def {m : List D → Option D} (F : OkD X.prog X.w X.K X.mg X.base j x ps (spF X.prog X.w X.K ar m)) (hr : Room k X.A) (hjk : j ≤ k) (har : (e :: es).length = ar) (hg : Gl X x)
    (ha : PA X (e :: es) (txa X fa)) (hno : LnA fa ar) (hdb : (x == ("__debug__" : Str)) = false := by decide)
    (he : starEach (e :: es) X.env = (false, eval e X.env) :: starEach es X.env := by rfl) (hpl : (backTo pos (starEach es X.env)).any (·.1) = false := by rfl) : PE X (.Call (.Name x p) (e :: es) [] pos) (tx X (sCall m fa)) := by
  obtain ⟨f, fd, F, h1, h2, h3⟩ := F
  exact px_call (F.mono hjk) har hr hg h1 h2 h3 ha hno hdb he hpl
theorem px_defM {m : D → List D → Option (D × D)} (F : OkD X.prog X.w X.K X.mg X.base j x ps (spM X.prog X.w X.K 0 ar m)) (hr : Room k X.A) (hjk : j ≤ k) (har : (e :: es).length = ar) (hg : Gl X x)
    (ha : PA X (e :: es) (txa X fa)) (hno : LnA fa ar) (hdb : (x == ("__debug__" : Str)) = false := by decide)
    (he : starEach (e :: es) X.env = (false, eval e X.env) :: starEach es X.env := by rfl) (hpl : (backTo pos (starEach es X.env)).any (·.1) = false := by rfl) : PE X (.Call (.Name x p) (e :: es) [] pos) (tx X (sCallM 0 m fa)) := by
  obtain ⟨f, fd, F, h1, h2, h3⟩ := F
  exact px_callM (F.mono hjk) hr hg h1 h2 h3 ha hno hdb he hpl
end
end PX

namespace PX
open PySem PySem.Spec PyProof.Rows L2

/-! ### the law's own first statement: draw = [script[:63], 0, 0] -/
def tDraw (K : Frag) : TS := fun E σ H => ∃ (a : Addr) (ns : List Int), σ[0]? = some (some (.ref a)) ∧ SqL K H a (ns.map V.int) ∧ ∀ b d, H b = none → upd H b (.lst ((ns.take 63).map V.int)) d = none →
  E.nx (σ.set 1 (some (.ref d))) (upd (upd H b (.lst ((ns.take 63).map V.int))) d (.lst [.ref b, .int 0, .int 0]))
section
variable {X : Cx} {x y : Str}
theorem px_draw {p1 p2 p3 p4 p5 p6 p7 p8 pos : Pos} {j1 j2 j3 : Nat} (hN : X.N.Nodup) (h0 : X.N[0]? = some x) (h1 : X.N[1]? = some y) (hx : Vis X.env.scope x) (hy : Loc X.env.scope y)
    (hs : swapsWith (.List [.Subscript (.Name x p2) (.Slice none (some (.Constant (.int 63) j1 p3)) none p4) p5, .Constant (.int 0) j2 p6, .Constant (.int 0) j3 p7] p8) (some (.Name y p1)) pos.line X.env = pure false := by rfl)
    (hf : X.fn y = true ∨ X.env.scope.names.lookup y = some .local := by first | exact .inl rfl | exact .inr rfl | assumption) (hd : (x == ("__debug__" : Str)) = false := by decide) (hcd : (x == ("__classdict__" : Str)) = false := by decide) :
    PS X (.Assign [.Name y p1] (.List [.Subscript (.Name x p2) (.Slice none (some (.Constant (.int 63) j1 p3)) none p4) p5, .Constant (.int 0) j2 p6, .Constant (.int 0) j3 p7] p8) pos) (tDraw X.K) :=
  PS.wk (ps_set hN h1 hy (pe_lst (pa_cons (pe_slice sl_list (pe_var h0 hx hd hcd) po_none (po_some pe_int)) (pa_cons pe_int (pa_cons pe_int pa_nil)))) hs hf) fun E σ H ⟨a, ns, e0, sq, k⟩ => by
    refine ⟨.ref a, e0, _, rfl, a, ns.map V.int, rfl, sq, fun b nb => ⟨(by show 3 ≤ sizeLine; decide), fun d nd => ?_⟩⟩
    have e : cutV (ns.map V.int) none (some 63) = (ns.take 63).map V.int := by
      have e1 : HT.sIx (ns.map V.int).length 0 none = 0 := rfl
      have e2 : HT.sIx (ns.map V.int).length (ns.map V.int).length (some 63) = min 63 (ns.map V.int).length := HT.sIx_nat _ _ 63
      unfold cutV
      rw [e1, e2, List.drop_zero, Nat.sub_zero, ← List.map_take]
      by_cases h : ns.length ≤ 63
      · rw [List.length_map, Nat.min_eq_right h, List.take_of_length_le (Nat.le_refl _), List.take_of_length_le h]
      · rw [List.length_map, Nat.min_eq_left (by omega)]
    rw [e] at nd ⊢
    exact k b d nb nd
end
/-- the law's frame behind its first statement -/
def rho0 (n : Nat) (ns : List Int) : En := stE n [.un, .mu true (.list [.list ((ns.take 63).map PyData.int), .int 0, .int 0])]
/-- the law says True -/
def LawT (n : Nat) (g : SemS) : Prop := ∀ ns : List Int, ns.length ≤ 63 → (∀ z ∈ ns, PySem.Builtin.Int.intBits z ≤ 1048576) → outF (g (rho0 n ns)) = some (.bool true)
def spLaw (K : Frag) : Sp := fun vs H Q _ => ∃ (a : Addr) (ns : List Int), vs = [.ref a] ∧ Only H ∧ SqL K H a (ns.map V.int) ∧ ns.length ≤ 63 ∧ (∀ z ∈ ns, PySem.Builtin.Int.intBits z ≤ 1048576) ∧ ∀ H', Q (.bl true) H'
theorem ints_cl {P : Program} {w : World} {K : Frag} {M : Prot} {H : Hp} : ∀ {ns : List Int}, ClA P w K M H (ns.map PyData.int) (ns.map V.int)
  | [] => rfl
  | n :: ns => ⟨.int n, ns.map V.int, rfl, rfl, ints_cl⟩
section
variable {P : Program} {w : World} {K : Frag} {mg : Str → Option Value} {base : Heap}
theorem lawOk {x qual : Str} {st : Stmt} {f : Addr} {fd : FuncData} {N : List Str} {y z : Str} {r : List Str} {k : Nat} {g : SemS} (hN : N = y :: z :: r) (F : Fun K x qual st f fd) (S : FnScope N [y] (defScope st))
    (hbody : ∀ (cdv : Value) (A : Around) (outer : List Env) (s : Shared) (H : Hp) (E : XK), Room k (A.deeper (envOfC qual (defScope st) s.heap.objs.size f cdv)) →
      PSs (cxOf CX0 P w K mg base N qual (defScope st) f cdv A outer s H E).nox (defBody st) (tSeq (tDraw K) (tS P w K g))) (hT : LawT N.length g) : FnOk P w K mg base CX0 (k + 1) f fd [y] (spLaw K) := by
  refine F.ok S (fun vs H Q E h => ?_) (fun cdv A outer s H vs Q E hr h => ?_)
  · obtain ⟨a, ns, rfl, _⟩ := h
    rfl
  · obtain ⟨a, ns, rfl, on, sq, hl, hb, q⟩ := h
    refine ⟨_, hbody cdv A outer s H E hr, a, ns, start_get rfl, sq, fun b d nb nd => ?_⟩
    have hnl : 2 ≤ N.length := by rw [hN]; simp
    have nbd : b ≠ d := fun e => by subst e; rw [upd_same] at nd; cases nd
    have nd' : H d = none := by rw [upd_ne (Ne.symm nbd)] at nd; exact nd
    have e := hT ns hl hb
    have rl : (rho0 N.length ns).length = N.length := by
      unfold rho0 stE
      rw [List.length_append, List.length_replicate]
      show 2 + (N.length - 2) = N.length
      omega
    have sl : (L2.start N [V.ref a]).length = N.length := start_len (by simp; omega)
    have s1 : ((L2.start N [V.ref a]).set 1 (some (.ref d)))[1]? = some (some (.ref d)) := by
      rw [List.getElem?_set_self (by rw [sl]; omega)]
    have r1 : (rho0 N.length ns)[1]? = some (.mu true (.list [.list ((ns.take 63).map PyData.int), .int 0, .int 0])) := rfl
    have rn : ∀ (i : Nat) (x : Slot), (rho0 N.length ns)[i]? = some x → x ≠ .un → i = 1 := fun i x h hx => by
      have h := stE_get h hx
      match i, h with
      | 0, h => exact absurd (Option.some.inj h).symm hx
      | 1, h => rfl
      | i + 2, h => cases h
    have co : Co P w K (fun b => b = d) (upd (upd H b (.lst ((ns.take 63).map V.int))) d (.lst [.ref b, .int 0, .int 0])) (.list [.list ((ns.take 63).map PyData.int), .int 0, .int 0]) d :=
      ⟨_, upd_same, .ref b, _, rfl, ⟨b, _, rfl, nbd, .inl (by rw [upd_ne nbd, upd_same]), ints_cl⟩, .int 0, _, rfl, rfl, .int 0, _, rfl, rfl, rfl⟩
    have er : ER P w K (fun b => b = d) (fun b => b = d) (rho0 N.length ns) ((L2.start N [V.ref a]).set 1 (some (.ref d))) (upd (upd H b (.lst ((ns.take 63).map V.int))) d (.lst [.ref b, .int 0, .int 0])) := by
      refine ⟨fun _ h => h, fun c h => h ▸ ⟨_, upd_same⟩, by rw [List.length_set, sl, rl], fun i d' h => ?_, fun i o d' h => ?_, fun i j o o' d1 d2 c h1 h2 _ _ => ?_⟩
      · obtain rfl := rn i _ h (by simp)
        rw [r1] at h; cases h
      · obtain rfl := rn i _ h (by simp)
        rw [r1] at h; cases h
        exact ⟨d, s1, rfl, co⟩
      · exact (rn i _ h1 (by simp)).trans (rn j _ h2 (by simp)).symm
    have gr : Gr H (upd (upd H b (.lst ((ns.take 63).map V.int))) d (.lst [.ref b, .int 0, .int 0])) := (Gr.upd nb).trans (Gr.upd nd)
    have sr : SR P w K ⟨fun _ => False, fun _ => False, H, fun _ => none, []⟩ (fun b => b = d) (fun b => b = d) (rho0 N.length ns) ((L2.start N [V.ref a]).set 1 (some (.ref d))) (upd (upd H b (.lst ((ns.take 63).map V.int))) d (.lst [.ref b, .int 0, .int 0])) := by
      refine ⟨er, fun _ h => h.elim, fun c h => .inr (by rw [show c = d from h]; exact nd'), fun _ h => h.elim, fun _ h => h.elim, gr.ext, fun i d' c h1 h2 => ?_, fun _ _ h => (nomatch h), fun _ h => absurd h (by simp)⟩
      obtain rfl := rn i _ h1 (by simp)
      rw [s1] at h2
      cases h2
      exact nd'
    cases ho : g (rho0 N.length ns) with
    | none => rw [ho] at e; cases e
    | some out =>
      rw [ho] at e
      refine ⟨_, _, _, _, sr, out, ho, ?_⟩
      cases out with
      | rt d ρ =>
        cases e
        exact fun W' M' σ' H' v sr' cv => by rw [show v = _ from cv]; exact q H'
      | nx ρ => cases e
      | bk ρ => cases e
      | ct ρ => cases e
theorem walkL {l : PySem.W.OpenLaw} {k : Nat} {q : Program} {loose : List Str} {XP : (Str → Option Value) → Heap → Prop} {YP : World → Heap → Prop} {d : DefRec} {K : Params → Frag} (hn : l.most = some 63) (hdf : d.params.defaults = []) (hr : Room k callerA)
    (hY : ∀ (w : World) (h : Heap), YP w h → (K w.params).In h)
    (F : ∀ (w : World) (mg : Str → Option Value) (fa : Addr) (h : Heap), (K w.params).In h → h.Ns mainGlobals mg → mg d.name = some (.ref fa) →
      ∃ fd : FuncData, (∀ (s : Shared) (u : Value), BindsTo s fd ⟨[u], []⟩ [("script", u)]) ∧ ∀ base : Heap, (K w.params).In base → base.Ns mainGlobals mg → FnOk l.prog w (K w.params) mg base CX0 k fa fd ["script"] (spLaw (K w.params))) :
    PySem.W.WalkO q loose XP YP l.row.toRowW d [] (fun f vs => PySem.call f vs) :=
  L2.walk_ofB (n := 63) (k := k) (x := "script") (CX := fun _ => CX0) (sp := fun w => spLaw (K w.params)) hn (by decide) hdf hr hY F (fun _ H a ns hl hb ho hS => ⟨a, ns, rfl, ho, hS, hl, hb, fun _ => rfl⟩) fun _ _ _ _ _ z => z
end
end PX

namespace PX
open PySem PySem.Spec PyProof.Rows L2

/-! ### lists and tuples as they are walked: one word for both (true: a list) -/
def SkIter : Bool → Addr → Addr → Nat → Heap → Prop
  | true, it, a, i, h => h.IsListIter it a i
  | false, it, a, i, h => h.IsTupleIter it a i
def SkIs : Bool → Addr → Array Value → Heap → Prop
  | true, a, its, h => h.IsList a its
  | false, a, its, h => h.IsTuple a its
def SkSq (K : Frag) : Bool → Hp → Addr → List V → Prop
  | true, H, a, xs => SqL K H a xs
  | false, H, a, xs => SqT K H a xs
def skObj : Bool → Addr → Obj
  | true, a => { cls := .type "list_iterator", data := .fields #[.ref a, .int 0 0] }
  | false, a => { cls := .type "tuple_iterator", data := .fields #[.ref a, .int 0 0] }
theorem sk_draws {prog : Program} {w : World} {A : Around} (b : Bool) (hh : A.handled = none) (it a : Addr) (hne : a ≠ it) (items : Array Value) :
    Draws prog w A it [it, a] items.size (fun i v => items[i]? = some v) (fun i h => SkIter b it a i h ∧ SkIs b a items h) := by
  cases b with
  | true => exact Draws.list hh it a hne items
  | false => exact Draws.tuple hh it a hne items
theorem sk_begins (b : Bool) (a : Addr) (items : Array Value) : Begins (.ref a) (skObj b a) (SkIs b a items) := by
  cases b with
  | true => exact begins_list a items
  | false => exact begins_tuple a items
theorem sk_start {b : Bool} {a it : Addr} {h : Heap} (e : h.get? it = some (skObj b a)) : SkIter b it a 0 h := by
  cases b with
  | true => exact ⟨_, e, rfl, rfl⟩
  | false => exact ⟨_, e, rfl, rfl⟩
theorem sk_is_keep {b : Bool} {a : Addr} {its : Array Value} {h h' : Heap} (x : SkIs b a its h) (k : ∀ o, h.get? a = some o → h'.get? a = some o) : SkIs b a its h' := by
  cases b with
  | true => exact x.at k
  | false => exact x.at k
theorem sk_it_keep {b : Bool} {it a : Addr} {i : Nat} {h h' : Heap} (x : SkIter b it a i h) (k : ∀ o, h.get? it = some o → h'.get? it = some o) : SkIter b it a i h' := by
  cases b with
  | true => exact x.at k
  | false => exact x.at k
theorem sk_it_obj {b : Bool} {it a : Addr} {i : Nat} {h : Heap} (x : SkIter b it a i h) : ∃ o, h.get? it = some o ∧ ∀ v, o.data ≠ .cell v := by
  cases b with
  | true => obtain ⟨o, e, _, d⟩ := x; exact ⟨o, e, fun v z => by rw [d] at z; cases z⟩
  | false => obtain ⟨o, e, _, d⟩ := x; exact ⟨o, e, fun v z => by rw [d] at z; cases z⟩
section
variable {X : Cx} {pins : List (Addr × Obj)} {σ : L2.St} {H : Hp} {s : Shared}
theorem sk_get (I : Inv X pins σ H s) {b : Bool} {a : Addr} {xs : List V} (h : SkSq X.K b H a xs) : ∃ its : List Value, Vals xs its ∧ SkIs b a its.toArray s.heap ∧ a < s.heap.objs.size := by
  cases b with
  | true =>
    obtain ⟨its, r, p, _⟩ := I.list h
    exact ⟨its, r, p.isList, p.lt⟩
  | false =>
    obtain ⟨its, r, p, _⟩ := I.tuple h
    obtain ⟨o, ho, _⟩ := id p
    exact ⟨its, r, p, Heap.lt_size ho⟩
theorem sk_inj (I : Inv X pins σ H s) {b : Bool} {a : Addr} {xs ys : List V} (h : SkSq X.K b H a xs) (h' : SkSq X.K b H a ys) : ys = xs := by
  cases b with
  | true => exact I.list_inj h' h
  | false => exact I.tuple_inj h' h
end
/-! ### zip of two -/
def ItZ (K : Frag) (b1 : Bool) (a1 : Addr) (b2 : Bool) (a2 : Addr) : It :=
  ⟨fun i H => ∃ xs ys x y, SkSq K b1 H a1 xs ∧ SkSq K b2 H a2 ys ∧ xs[i]? = some x ∧ ys[i]? = some y,
    fun i H v H' => ∃ T x y, v = .ref T ∧ H T = none ∧ H' = upd H T (.tup [x, y]) ∧ (∀ xs, SkSq K b1 H a1 xs → xs[i]? = some x) ∧ ∀ ys, SkSq K b2 H a2 ys → ys[i]? = some y,
    fun i H => ∃ xs ys, SkSq K b1 H a1 xs ∧ SkSq K b2 H a2 ys ∧ i = min xs.length ys.length⟩
def tnZ (b1 : Bool) (a1 : Addr) (b2 : Bool) (a2 z TI TO i1 i2 : Addr) (i : Nat) (h : Heap) : Prop :=
  IsZip h z TI TO .none ∧ IsTupOf2 h TI (.ref i1) (.ref i2) ∧ (∃ u v, IsTupOf2 h TO u v) ∧ SkIter b1 i1 a1 i h ∧ SkIter b2 i2 a2 i h
theorem turn_z2 {P : Program} {w : World} {K : Frag} {elts : List Expr} {kk : Nat} {tpos : Pos} {b1 b2 : Bool} {a1 a2 z TI TO i1 i2 : Addr} (S : ZipSep2 z TI TO i1 i2 [i1, a1] [i2, a2]) (n1 : a1 ≠ i1) (n2 : a2 ≠ i2) :
    Turn P w K (.Tuple elts kk tpos) (ItZ K b1 a1 b2 a2) [z, TI, TO, i1, i2] z (tnZ b1 a1 b2 a2 z TI TO i1 i2) where
  mem := by simp
  obj := fun i h st c hc => by
    obtain ⟨hz, hTI, ⟨x, y, hTO⟩, h1, h2⟩ := st
    have e : c = z ∨ c = TI ∨ c = TO ∨ c = i1 ∨ c = i2 := by simpa using hc
    rcases e with rfl | rfl | rfl | rfl | rfl
    · exact ⟨_, hz, fun v q => nomatch q⟩
    · exact ⟨_, hTI, fun v q => nomatch q⟩
    · exact ⟨_, hTO, fun v q => nomatch q⟩
    · exact sk_it_obj h1
    · exact sk_it_obj h2
  keep := fun i h h' st k => by
    obtain ⟨hz, hTI, ⟨x, y, hTO⟩, h1, h2⟩ := st
    exact ⟨k z (by simp) _ hz, k TI (by simp) _ hTI, ⟨x, y, k TO (by simp) _ hTO⟩, sk_it_keep h1 fun o q => k i1 (by simp) o q, sk_it_keep h2 fun o q => k i2 (by simp) o q⟩
  item := by
    intro X hP hw hK hc i pins s σ H E I hf st hg
    subst hP hw hK
    obtain ⟨hz, hTI, hTO, h1, h2⟩ := st
    obtain ⟨xs, ys, x, y, qx, qy, hx, hy⟩ := hg
    obtain ⟨its, rv, p1, l1⟩ := sk_get I qx
    obtain ⟨its2, rv2, p2, l2⟩ := sk_get I qy
    obtain ⟨u, hu, ru⟩ := rv.get hx
    obtain ⟨u2, hu2, ru2⟩ := rv2.get hy
    have D1 := sk_draws (prog := X.prog) (w := X.w) (A := X.A.in1) b1 (I.ok.hd hc) i1 a1 n1 its.toArray
    have D2 := sk_draws (prog := X.prog) (w := X.w) (A := X.A.in1) b2 (I.ok.hd hc) i2 a2 n2 its2.toArray
    have Wk := WalksT.zipD2 S D1 D2
    have k1 := lt_of_some hu
    have k2 := lt_of_some hu2
    refine Wk.item i s _ E (by simp; omega) ⟨hz, hTI, hTO, ⟨h1, p1⟩, ⟨h2, p2⟩⟩ fun T vals h' tk ⟨v1, v2, g1, g2, ev⟩ hle hT hM hk => ⟨_, rfl, ?_⟩
    subst ev
    refine Wk.go elts kk tpos i T { s with heap := h', toks := tk } _ E hM fun h'' st' hk' => ?_
    obtain ⟨z1, z2, z3, ⟨z4, _⟩, ⟨z5, _⟩⟩ := st'
    have e1 : v1 = u := by
      have : its.toArray[i]? = some u := by simpa using hu
      exact Option.some.inj (g1.symm.trans this)
    have e2 : v2 = u2 := by
      have : its2.toArray[i]? = some u2 := by simpa using hu2
      exact Option.some.inj (g2.symm.trans this)
    subst e1 e2
    have hT2 : Heap.IsTuple h'' T #[v1, v2] := hT.at fun o q => hk' T o (Wk.apart i T h' hM) q
    have new : ObjOk X.prog X.w (upd H T (.tup [x, y])) h'' T (.tup [x, y]) := ⟨by show 2 ≤ sizeLine; decide, [v1, v2], .cons ru (.cons ru2 .nil), hT2⟩
    have sub : ∀ c, c ∉ [z, TI, TO, i1, i2] → c ∉ [z, TO, i1, i2] := fun c hc q => hc (by simp at q ⊢; rcases q with q | q | q | q <;> simp [q])
    have I1 : Inv X pins σ (upd H T (.tup [x, y])) { s with heap := h'', toks := tk } :=
      I.turnedNew (ch := [z, TI, TO, i1, i2]) (fun c o hb q => hk' c o (sub c hb) (hk c o (sub c hb) q)) hf hle new
    refine ⟨.ref T, _, I1, rfl, ⟨T, x, y, rfl, I.hok.fresh hle, rfl, fun l hl => by rw [sk_inj I qx hl]; exact hx, fun l hl => by rw [sk_inj I qy hl]; exact hy⟩, ⟨z1, z2, z3, z4, z5⟩, fun c hcm => ?_⟩
    have hlt : c < s.heap.objs.size := by
      have e : c = z ∨ c = TI ∨ c = TO ∨ c = i1 ∨ c = i2 := by simpa using hcm
      rcases e with rfl | rfl | rfl | rfl | rfl
      · exact Heap.lt_size hz
      · exact Heap.lt_size hTI
      · obtain ⟨_, _, q⟩ := hTO; exact Heap.lt_size q
      · obtain ⟨_, q, _⟩ := sk_it_obj h1; exact Heap.lt_size q
      · obtain ⟨_, q, _⟩ := sk_it_obj h2; exact Heap.lt_size q
    rw [upd_ne (Nat.ne_of_lt (Nat.lt_of_lt_of_le hlt hle))]
    exact (hf c hcm).1
  done := by
    intro X hP hw hK hc i pins s σ H E I hf st hg
    subst hP hw hK
    obtain ⟨hz, hTI, hTO, h1, h2⟩ := st
    obtain ⟨xs, ys, qx, qy, hend⟩ := hg
    obtain ⟨its, rv, p1, l1⟩ := sk_get I qx
    obtain ⟨its2, rv2, p2, l2⟩ := sk_get I qy
    have D1 := sk_draws (prog := X.prog) (w := X.w) (A := X.A.in1) b1 (I.ok.hd hc) i1 a1 n1 its.toArray
    have D2 := sk_draws (prog := X.prog) (w := X.w) (A := X.A.in1) b2 (I.ok.hd hc) i2 a2 n2 its2.toArray
    have Wk := WalksT.zipD2 S D1 D2
    have e : i = min its.toArray.size its2.toArray.size := by rw [hend, rv.length, rv2.length]; simp
    subst e
    refine Wk.done s _ E ⟨hz, hTI, hTO, ⟨h1, p1⟩, ⟨h2, p2⟩⟩ fun h' tk hk => ⟨rfl, I.turnedL (ch := [z, TI, TO, i1, i2]) (fun c o hb q => hk c o (fun q' => hb (by simp at q' ⊢; rcases q' with q' | q' | q' | q' <;> simp [q'])) q) hf⟩
  self := fun A i s Q E st h => wpAny_pyIter_zip st.1 h
/-- what is made of sources: their kinds, addresses, items -/
def iZ2 (K : Frag) (ta : TA) : TI := fun σ H R => ta σ H fun vs H1 => ∃ b1 a1 b2 a2 xs ys, vs = [.ref a1, .ref a2] ∧ SkSq K b1 H1 a1 xs ∧ SkSq K b2 H1 a2 ys ∧ R (ItZ K b1 a1 b2 a2) H1
theorem pi_z2 {X : Cx} {e e2 : Expr} {ta : TA} {p pos tpos : Pos} {elts : List Expr} {kk : Nat} (hg : Gl X "zip") (hm : X.mg "zip" = none) (ha : PA X [e, e2] ta)
    (hs : starEach [e, e2] X.env = (false, eval e X.env) :: starEach [e2] X.env := by rfl) (hpl : (backTo pos (starEach [e2] X.env)).any (·.1) = false := by rfl) :
    PI X (.Tuple elts kk tpos) (.Call (.Name "zip" p) [e, e2] [] pos) (iZ2 X.K ta) := by
  constructor
  intro pins s σ H R I h
  refine Call_ (ld_blt I hg hm PyProof.Rows.boot_zip ?_)
  refine PyProof.Rows.callWith_type1 (thn (ha.run pos pins s σ H _ I h) fun us s1 ⟨vs, H1, I1, r1, b1, a1, b2, a2, xs, ys, ex, qx, qy, q⟩ => ?_) hs hpl
  subst ex
  cases r1 with
  | cons r rr =>
    cases rr with
    | cons r' rr =>
      cases rr
      cases r
      cases r'
      obtain ⟨its, rv, p1, l1⟩ := sk_get I1 qx
      obtain ⟨its2, rv2, p2, l2⟩ := sk_get I1 qy
      refine zip_begins2 (sk_begins b1 a1 its.toArray) (sk_begins b2 a2 its2.toArray) p1 p2 fun h' hz hTI hTO h1 h2 hsz hk => wpAny_pyIter_zip hz ?_
      have I2 : Inv X pins σ H1 { s1 with heap := h' } := I1.kept (t' := s1.toks) hk
      have S := zip_sep2 (N := s1.heap.objs.size) (fp1 := [a1]) (fp2 := [a2]) (fun c hc => by rw [List.mem_singleton.mp hc]; exact l1) (fun c hc => by rw [List.mem_singleton.mp hc]; exact l2)
      refine ⟨_, _, _, _, H1, rfl, I2, turn_z2 S (Nat.ne_of_lt l1) (Nat.ne_of_lt (Nat.lt_succ_of_lt l2)), ⟨hz, hTI, ⟨_, _, hTO⟩, sk_start h1, sk_start h2⟩, fun c hc => ?_, q⟩
      have hle : s1.heap.objs.size ≤ c := by
        have e : c = s1.heap.objs.size + 4 ∨ c = s1.heap.objs.size + 2 ∨ c = s1.heap.objs.size + 3 ∨ c = s1.heap.objs.size ∨ c = s1.heap.objs.size + 1 := by simpa using hc
        rcases e with rfl | rfl | rfl | rfl | rfl <;> simp
      exact I1.fpOk hle (I1.hok.fresh hle)

/-! ### enumerate -/
def ItE (K : Frag) (b : Bool) (a : Addr) : It :=
  ⟨fun i H => ∃ xs x, SkSq K b H a xs ∧ xs[i]? = some x,
    fun i H v H' => ∃ T x, v = .ref T ∧ H T = none ∧ H' = upd H T (.tup [.int (i : Nat), x]) ∧ (∀ xs, SkSq K b H a xs → xs[i]? = some x),
    fun i H => ∃ xs, SkSq K b H a xs ∧ i = xs.length⟩
def tnE (b : Bool) (a e it : Addr) (i : Nat) (h : Heap) : Prop := (∃ old, IsEnum h e it (0 + (i : Int)) old) ∧ SkIter b it a i h
theorem turn_en {P : Program} {w : World} {K : Frag} {elts : List Expr} {kk : Nat} {tpos : Pos} {b : Bool} {a e it : Addr} (n1 : a ≠ it) (n2 : e ≠ it) (n3 : e ≠ a) :
    Turn P w K (.Tuple elts kk tpos) (ItE K b a) [e, it] e (tnE b a e it) where
  mem := by simp
  obj := fun i h st c hc => by
    obtain ⟨⟨old, he⟩, h1⟩ := st
    have q : c = e ∨ c = it := by simpa using hc
    rcases q with rfl | rfl
    · exact ⟨_, he, fun v q => nomatch q⟩
    · exact sk_it_obj h1
  keep := fun i h h' st k => by
    obtain ⟨⟨old, he⟩, h1⟩ := st
    exact ⟨⟨old, k e (by simp) _ he⟩, sk_it_keep h1 fun o q => k it (by simp) o q⟩
  item := by
    intro X hP hw hK hc i pins s σ H E I hf st hg
    subst hP hw hK
    obtain ⟨⟨old, he⟩, h1⟩ := st
    obtain ⟨xs, x, qx, hx⟩ := hg
    obtain ⟨its, rv, p1, l1⟩ := sk_get I qx
    obtain ⟨u, hu, ru⟩ := rv.get hx
    have D1 := sk_draws (prog := X.prog) (w := X.w) (A := X.A.in1) b (I.ok.hd hc) it a n1 its.toArray
    have Wk := WalksT.enumFrom (prog := X.prog) (w := X.w) (A := X.A) 0 D1 e n2 (by simp; exact ⟨n2, n3⟩) (by simp)
    have k1 := lt_of_some hu
    refine Wk.item i s _ E (by simpa using k1) ⟨⟨old, he⟩, h1, p1⟩ fun T vals h' tk ⟨t, v1, g1, ev⟩ hle hT hM hk => ⟨_, rfl, ?_⟩
    subst ev
    refine Wk.go elts kk tpos i T { s with heap := h', toks := tk } _ E hM fun h'' st' hk' => ?_
    obtain ⟨z1, z2, _⟩ := st'
    have e1 : v1 = u := by
      have : its.toArray[i]? = some u := by simpa using hu
      exact Option.some.inj (g1.symm.trans this)
    subst e1
    have hT2 : Heap.IsTuple h'' T #[.int (0 + (i : Int)) t, v1] := hT.at fun o q => hk' T o (Wk.apart i T h' hM) q
    have ri : RelV (.int (i : Nat)) (.int (0 + (i : Int)) t) := ⟨t, by rw [Int.zero_add]⟩
    have new : ObjOk X.prog X.w (upd H T (.tup [.int (i : Nat), x])) h'' T (.tup [.int (i : Nat), x]) := ⟨by show 2 ≤ sizeLine; decide, [_, v1], .cons ri (.cons ru .nil), hT2⟩
    have I1 : Inv X pins σ (upd H T (.tup [.int (i : Nat), x])) { s with heap := h'', toks := tk } :=
      I.turnedNew (ch := [e, it]) (fun c o hb q => hk' c o hb (hk c o hb q)) hf hle new
    refine ⟨.ref T, _, I1, rfl, ⟨T, x, rfl, I.hok.fresh hle, rfl, fun l hl => by rw [sk_inj I qx hl]; exact hx⟩, ⟨z1, z2⟩, fun c hcm => ?_⟩
    have hlt : c < s.heap.objs.size := by
      have q : c = e ∨ c = it := by simpa using hcm
      rcases q with rfl | rfl
      · exact Heap.lt_size he
      · obtain ⟨_, q, _⟩ := sk_it_obj h1; exact Heap.lt_size q
    rw [upd_ne (Nat.ne_of_lt (Nat.lt_of_lt_of_le hlt hle))]
    exact (hf c hcm).1
  done := by
    intro X hP hw hK hc i pins s σ H E I hf st hg
    subst hP hw hK
    obtain ⟨⟨old, he⟩, h1⟩ := st
    obtain ⟨xs, qx, hend⟩ := hg
    obtain ⟨its, rv, p1, l1⟩ := sk_get I qx
    have D1 := sk_draws (prog := X.prog) (w := X.w) (A := X.A.in1) b (I.ok.hd hc) it a n1 its.toArray
    have Wk := WalksT.enumFrom (prog := X.prog) (w := X.w) (A := X.A) 0 D1 e n2 (by simp; exact ⟨n2, n3⟩) (by simp)
    have e' : i = its.toArray.size := by rw [hend, rv.length]; simp
    subst e'
    exact Wk.done s _ E ⟨⟨old, he⟩, h1, p1⟩ fun h' tk hk => ⟨rfl, I.turnedL (ch := [e, it]) (fun c o hb q => hk c o hb q) hf⟩
  self := fun A i s Q E st h => by
    obtain ⟨⟨old, he⟩, _⟩ := st
    exact wpAny_pyIter_enum he h
/-- enumerate(v) where iter(v) is told -/
theorem meets_en1 {v : Value} (P0 : Heap → Prop) (it : Heap → Addr) (h1 : Heap → Heap) (B : ∀ (prog : Program) (w : World) (A : Around) (E : Value → Shared → Prop) (s : Shared) (Q : Value → Shared → Prop), P0 s.heap → Q (.ref (it s.heap)) { s with heap := h1 s.heap } → wpAny (model prog w) A (pyIter v) Q E s) :
    Meets (Builtin.«enumerate.__new__» ⟨[.type "enumerate", v], []⟩) (fun _ R s => P0 s.heap ∧
      R (.ok (.ret (.ref (h1 s.heap).objs.size))) { s with heap := (h1 s.heap).push { cls := .type "enumerate", data := .fields #[.none, .bool false, .ref (it s.heap), rawInt 0, .none, .none] } }) :=
  .of_wp fun prog w A R s h => by
    obtain ⟨hp, g, d, tk, os⟩ := s
    obtain ⟨hp0, h⟩ := h
    have hsub := sub_enumerate
    have q1 : ∀ {A' : Around} {E : Value → Shared → Prop} {Q : Value → Shared → Prop}, Q (.ref (it hp)) ⟨h1 hp, g, d, tk, os⟩ → wpAny (model prog w) A' (pyIter v) Q E ⟨hp, g, d, tk, os⟩ :=
      fun q => B prog w _ _ ⟨hp, g, d, tk, os⟩ _ hp0 q
    wp_walk using q1
    refine wpAny_stack_any fun st => wpAny_pure ?_
    split
    · rename_i c _ _ _ _ _
      cases (c == Value.type "enumerate") <;> (wp_walk using q1; exact ⟨_, rfl, h⟩)
    · wp_walk using q1
      exact ⟨_, rfl, h⟩
theorem call_en1 {prog : Program} {w : World} {A : Around} {E : Value → Shared → Prop} {s : Shared} {Q : Value → Shared → Prop} {v : Value} (P0 : Heap → Prop) (it : Heap → Addr) (h1 : Heap → Heap)
    (B : ∀ (prog : Program) (w : World) (A : Around) (E : Value → Shared → Prop) (s : Shared) (Q : Value → Shared → Prop), P0 s.heap → Q (.ref (it s.heap)) { s with heap := h1 s.heap } → wpAny (model prog w) A (pyIter v) Q E s) (hp0 : P0 s.heap)
    (h : Q (.ref (h1 s.heap).objs.size) { s with heap := (h1 s.heap).push { cls := .type "enumerate", data := .fields #[.none, .bool false, .ref (it s.heap), rawInt 0, .none, .none] } }) :
    wpAny (model prog w) A (call (.type "enumerate") [v]) Q E s :=
  callType_new F.called_enumerate (by decide) (F.typeCall_enumerate_1 _) (F.newCall_enumerate_1 _) (fun obj => F.args_object_init_2 obj _) F.entry_enumerate_new (meets_en1 P0 it h1 B) ⟨hp0, ⟨⟨_, Heap.get?_push_size _ rfl, rfl⟩, h⟩⟩
def iEn (K : Frag) (ta : TA) : TI := fun σ H R => ta σ H fun vs H1 => ∃ b a xs, vs = [.ref a] ∧ SkSq K b H1 a xs ∧ R (ItE K b a) H1
theorem pi_en {X : Cx} {e : Expr} {ta : TA} {p pos tpos : Pos} {elts : List Expr} {kk : Nat} (hg : Gl X "enumerate") (hm : X.mg "enumerate" = none) (ha : PA X [e] ta) (hs : starEach [e] X.env = [(false, eval e X.env)] := by rfl) :
    PI X (.Tuple elts kk tpos) (.Call (.Name "enumerate" p) [e] [] pos) (iEn X.K ta) := by
  constructor
  intro pins s σ H R I h
  refine Call_ (ld_blt I hg hm boot_enumerate ?_)
  refine PyProof.Rows.callWith_type1 (thn (ha.run pos pins s σ H _ I h) fun us s1 ⟨vs, H1, I1, r1, b, a, xs, ex, qx, q⟩ => ?_) hs rfl
  subst ex
  cases r1 with
  | cons r rr =>
    cases rr
    cases r
    obtain ⟨its, rv, p1, l1⟩ := sk_get I1 qx
    refine call_en1 (SkIs b a its.toArray) (fun h => h.objs.size) (fun h => h.push (skObj b a)) (fun prog w A E s Q h0 hQ => (sk_begins b a its.toArray).iter prog w A E s Q h0 hQ) p1 ?_
    have fr := (sk_begins b a its.toArray).free
    have hz : (s1.heap.push (skObj b a)).objs.size = s1.heap.objs.size + 1 := Heap.size_push ..
    have he : IsEnum ((s1.heap.push (skObj b a)).push { cls := .type "enumerate", data := .fields #[.none, .bool false, .ref s1.heap.objs.size, rawInt 0, .none, .none] }) (s1.heap.objs.size + 1) s1.heap.objs.size (0 + ((0 : Nat) : Int)) .none := by
      have := Heap.get?_push_size (s1.heap.push (skObj b a)) (o := { cls := .type "enumerate", data := .fields #[.none, .bool false, .ref s1.heap.objs.size, rawInt 0, .none, .none] }) rfl
      rw [hz] at this
      exact this
    rw [hz]
    refine wpAny_pyIter_enum he ?_
    have I2 : Inv X pins σ H1 { s1 with heap := (s1.heap.push (skObj b a)).push { cls := .type "enumerate", data := .fields #[.none, .bool false, .ref s1.heap.objs.size, rawInt 0, .none, .none] } } := I1.kept (t' := s1.toks) fun c o q => Heap.get?_push_of_some _ (Heap.get?_push_of_some _ q)
    refine ⟨_, _, _, _, H1, rfl, I2, turn_en (Nat.ne_of_lt l1) (Nat.succ_ne_self _) (fun z => absurd l1 (by rw [← z]; exact Nat.not_lt.mpr (Nat.le_succ _))), ⟨⟨_, he⟩, sk_start (Heap.get?_push_of_some _ (Heap.get?_push_size _ fr))⟩, fun c hc => ?_, q⟩
    have hle : s1.heap.objs.size ≤ c := by
      have e : c = s1.heap.objs.size + 1 ∨ c = s1.heap.objs.size := by simpa using hc
      rcases e with rfl | rfl <;> simp
    exact I1.fpOk hle (I1.hok.fresh hle)
end PX

namespace PX
open PySem PySem.Spec PyProof.Rows L2

/-! ### zip within enumerate: its last pair is still in somebody's hands -/
abbrev IsZf (h : Heap) (z TI TO : Addr) (f0 : Value) (f1 : Bool) : Prop :=
  h.get? z = some { cls := .type "zip", dict := none, data := .fields #[f0, .bool f1, .bool false, .ref TI, .ref TO], slots := #[] }
def zOk (f0 : Value) : Prop := f0 = .none ∨ ∃ a : Nat, f0 = rawInt a
/-- nothing but these has changed, nothing is new -/
def Kp (ch : List Addr) (h h' : Heap) : Prop := h'.objs.size = h.objs.size ∧ ∀ b o, b ∉ ch → h.get? b = some o → h'.get? b = some o
theorem Kp.of {ch : List Addr} {a : Addr} {h h' : Heap} (s : Heap.SameBut a h h') (m : a ∈ ch) : Kp ch h h' := ⟨s.1, fun b o hb e => s.extBut b o (fun q => hb (q ▸ m)) e⟩
theorem Kp.trans {ch : List Addr} {h h' h'' : Heap} (a : Kp ch h h') (b : Kp ch h' h'') : Kp ch h h'' := ⟨b.1.trans a.1, fun c o hc e => b.2 c o hc (a.2 c o hc e)⟩
theorem Kp.refl {ch : List Addr} {h : Heap} : Kp ch h h := ⟨rfl, fun _ _ _ e => e⟩
section
variable {prog : Program} {w : World} {A : Around} {E : Value → Shared → Prop} {s : Shared}
theorem wp_alive {a : Addr} {Q : Option Obj → Shared → Prop} (h : Q (s.heap.get? a) s) : wpAny (model prog w) A (loadIfAlive a) Q E s := fun Γ p hΓ => by
  show Sem.wp (model prog w) Γ (Sem.loadIfAlive a .pure) _ _ p s
  rw [Sem.wp_loadIfAlive]
  exact h
theorem own_free {z TI TO : Addr} {f0 : Value} {f1 : Bool} {Q : Bool → Shared → Prop} (hz : IsZf s.heap z TI TO f0 f1) (ok : zOk f0)
    (hQ : ∀ b h' f1', IsZf h' z TI TO f0 f1' → Heap.SameBut z s.heap h' → Q b { s with heap := h' }) : wpAny (model prog w) A (Builtin.SmallTypes.ownedTupleIsFree (.ref z)) Q E s := by
  have sm : Heap.SameBut z s.heap s.heap := ⟨rfl, fun _ _ => rfl⟩
  unfold Builtin.SmallTypes.ownedTupleIsFree
  rcases ok with rfl | ⟨a, rfl⟩
  · exact wpAny_bind (wpAny_field hz rfl (x := .none) rfl (wpAny_pure (hQ true s.heap f1 hz sm)))
  · refine wpAny_bind (wpAny_field hz rfl (x := rawInt a) rfl ?_)
    show wpAny _ _ (loadIfAlive _ >>= _) _ _ _
    refine wpAny_bind (wp_alive ?_)
    cases e : s.heap.get? ((a : Int).toNat : Nat) with
    | none => exact wpAny_pure (hQ true s.heap f1 hz sm)
    | some o =>
      show wpAny _ _ (field (.ref z) 1 >>= _) _ _ _
      refine wpAny_bind (wpAny_field hz rfl (x := .bool f1) rfl ?_)
      cases f1 with
      | true => exact wpAny_pure (hQ false s.heap true hz sm)
      | false =>
        show wpAny _ _ (setField (.ref z) 1 (.bool true) >>= _) _ _ _
        refine wpAny_bind (wpAny_setField_rec hz (by simp) fun h' hz' hs' => ?_)
        exact wpAny_pure (hQ false h' true hz' hs')
variable {z TI TO i1 i2 : Addr} {fp1 fp2 : List Addr} {n1 n2 i : Nat} {P1 P2 : Nat → Value → Prop} {St1 St2 : Nat → Heap → Prop} {f0 : Value} {f1 : Bool}
theorem zip_next {Q : Value → Shared → Prop} (S : ZipSep2 z TI TO i1 i2 fp1 fp2) (D1 : Draws prog w A i1 fp1 n1 P1 St1) (D2 : Draws prog w A i2 fp2 n2 P2 St2)
    (hz : IsZf s.heap z TI TO f0 f1) (ok : zOk f0) (hTI : IsTupOf2 s.heap TI (.ref i1) (.ref i2)) (hTO : ∃ u v, IsTupOf2 s.heap TO u v) (st1 : St1 i s.heap) (st2 : St2 i s.heap) (hlt1 : i < n1) (hlt2 : i < n2)
    (hQ : ∀ x1 x2 h' tk g0 g1, P1 i x1 → P2 i x2 → zOk g0 → IsZf h' z TI TO g0 g1 → (∃ u v, IsTupOf2 h' TO u v) → St1 (i + 1) h' → St2 (i + 1) h' → IsTupOf2 h' s.heap.objs.size x1 x2 → h'.objs.size = s.heap.objs.size + 1 →
      (∀ c o, c ∉ [z, TO, i1, i2] → s.heap.get? c = some o → h'.get? c = some o) → Q (.ref s.heap.objs.size) { s with heap := h', toks := tk }) :
    wpAny (model prog w) A (Builtin.«zip.__next__» ⟨[.ref z], []⟩) (fun fin s' => ∃ v, fin = .done (.ret v) ∧ Q v s') E s := by
  obtain ⟨hp, g, d, tk0, os⟩ := s
  obtain ⟨u0, v0, hTO⟩ := hTO
  have m0 : z ∈ [z, TO, i1, i2] := by simp
  have mT : TO ∈ [z, TO, i1, i2] := by simp
  have m1 : i1 ∈ [z, TO, i1, i2] := by simp
  have m2 : i2 ∈ [z, TO, i1, i2] := by simp
  show wpAny _ _ (field (.ref z) 2 >>= _) _ _ _
  refine wpAny_bind (wpAny_field hz rfl (x := .bool false) rfl ?_)
  show wpAny _ _ (field (.ref z) 3 >>= _) _ _ _
  refine wpAny_bind (wpAny_field hz rfl (x := .ref TI) rfl ?_)
  refine wpAny_bind (wpAny_seqItems hTI rfl ?_)
  show wpAny _ _ (Builtin.SmallTypes.ownedTupleIsFree (.ref z) >>= _) _ _ _
  refine wpAny_bind (own_free hz ok fun b ha fa hza hsa => ?_)
  replace hsa : Heap.SameBut z hp ha := hsa
  have hTOa : IsTupOf2 ha TO u0 v0 := hsa.extBut _ _ S.TOz hTO
  have sa1 : St1 i ha := D1.over st1 hsa S.zf1
  have sa2 : St2 i ha := D2.over st2 hsa S.zf2
  have ka : Kp [z, TO, i1, i2] hp ha := .of hsa m0
  cases b with
  | true =>
    simp only [if_true]
    refine wpAny_bind (wpAny_rule ?_)
    refine wpAny_bind (wpAny_field (s := ⟨ha, g, d, tk0, os⟩) hza rfl (x := .ref TO) rfl ?_)
    refine wpAny_bind (wpAny_setField_rec (s := ⟨ha, g, d, tk0, os⟩) hza (by simp) fun g0 hz0 hs0 => ?_)
    replace hz0 : IsZf g0 z TI TO .ellipsis fa := hz0
    replace hs0 : Heap.SameBut z ha g0 := hs0
    refine wpAny_bind ?_
    simp only [List.zipIdx_cons, List.zipIdx_nil, List.forIn_cons, List.forIn_nil]
    refine wpAny_bind (wpAny_bind (wpAny_onRaise ?_))
    show wpAny _ _ (Builtin.SmallTypes.nextOf (.ref i1) >>= _) _ _ ⟨g0, g, d, tk0, os⟩
    refine wpAny_bind (D1.item i _ _ _ hlt1 (D1.over sa1 hs0 S.zf1) fun x1 p1 tk1 hx1 sn1 hp1 => wpAny_pure ?_)
    replace hp1 : Heap.SameBut i1 g0 p1 := hp1
    have hU1 : IsTupOf2 p1 TO u0 v0 := hp1.extBut _ _ S.Ti1 (hs0.extBut _ _ S.TOz hTOa)
    refine wpAny_bind (wpAny_seqItems (s := ⟨p1, g, d, tk1, os⟩) hU1 rfl ?_)
    refine wpAny_bind (updateSeq_IsTupOf2 (s := ⟨p1, g, d, tk1, os⟩) hU1 fun g1 hT1 hs1 => ?_)
    replace hT1 : IsTupOf2 g1 TO x1 v0 := hT1
    replace hs1 : Heap.SameBut TO p1 g1 := hs1
    refine wpAny_bind (wpAny_letGo (wpAny_pure ?_))
    refine wpAny_bind (wpAny_bind (wpAny_onRaise ?_))
    show wpAny _ _ (Builtin.SmallTypes.nextOf (.ref i2) >>= _) _ _ ⟨g1, g, d, tk1, os⟩
    refine wpAny_bind (D2.item i _ _ _ hlt2 (D2.over (D2.over (D2.over sa2 hs0 S.zf2) hp1 S.sep1_2) hs1 S.Tf2) fun x2 p2 tk2 hx2 sn2 hp2 => wpAny_pure ?_)
    replace hp2 : Heap.SameBut i2 g1 p2 := hp2
    have hU2 : IsTupOf2 p2 TO x1 v0 := hp2.extBut _ _ S.Ti2 hT1
    refine wpAny_bind (wpAny_seqItems (s := ⟨p2, g, d, tk2, os⟩) hU2 rfl ?_)
    refine wpAny_bind (updateSeq_IsTupOf2 (s := ⟨p2, g, d, tk2, os⟩) hU2 fun g2 hT2 hs2 => ?_)
    replace hT2 : IsTupOf2 g2 TO x1 x2 := hT2
    replace hs2 : Heap.SameBut TO p2 g2 := hs2
    refine wpAny_bind (wpAny_letGo (wpAny_pure (wpAny_pure ?_)))
    refine wpAny_bind (wpAny_seqItems (s := ⟨g2, g, d, tk2, os⟩) hT2 rfl ?_)
    refine wpAny_bind (wpAny_newTuple ?_)
    have k2 : Kp [z, TO, i1, i2] hp g2 := ((((ka.trans (.of hs0 m0)).trans (.of hp1 m1)).trans (.of hs1 mT)).trans (.of hp2 m2)).trans (.of hs2 mT)
    have hzz : IsZf g2 z TI TO .ellipsis fa := hs2.extBut _ _ S.TOz.symm (hp2.extBut _ _ S.zi2 (hs1.extBut _ _ S.TOz.symm (hp1.extBut _ _ S.zi1 hz0)))
    have hj1 : St1 (i + 1) g2 := D1.over (D1.over (D1.over sn1 hs1 S.Tf1) hp2 S.sep2_1) hs2 S.Tf1
    have hj2 : St2 (i + 1) g2 := D2.over sn2 hs2 S.Tf2
    have hzlt : z < g2.objs.size := Heap.lt_size hzz
    show wpAny _ _ (Builtin.SmallTypes.ownedTupleHandOut (.ref z) (.ref g2.objs.size) >>= _) _ _ ⟨g2.push { cls := .type "tuple", data := .seq #[x1, x2] }, g, d, tk2, os⟩
    refine wpAny_bind ?_
    unfold Builtin.SmallTypes.ownedTupleHandOut
    have hz6 : IsZf (g2.push { cls := .type "tuple", data := .seq #[x1, x2] }) z TI TO .ellipsis fa := Heap.get?_push_of_some _ hzz
    refine wpAny_bind (wpAny_setField_rec hz6 (by simp) fun h7 hz7 hs7 => ?_)
    replace hz7 : IsZf h7 z TI TO (rawInt g2.objs.size) fa := hz7
    refine wpAny_setField_rec hz7 (by simp) fun h8 hz8 hs8 => ?_
    replace hz8 : IsZf h8 z TI TO (rawInt g2.objs.size) false := hz8
    replace hs7 : Heap.SameBut z (g2.push { cls := .type "tuple", data := .seq #[x1, x2] }) h7 := hs7
    replace hs8 : Heap.SameBut z h7 h8 := hs8
    have up : ∀ c o, c ≠ z → g2.get? c = some o → h8.get? c = some o := fun c o c1 e => hs8.extBut _ _ c1 (hs7.extBut _ _ c1 (Heap.get?_push_of_some _ e))
    have hT8 : IsTupOf2 h8 g2.objs.size x1 x2 := hs8.extBut _ _ (Nat.ne_of_gt hzlt) (hs7.extBut _ _ (Nat.ne_of_gt hzlt) (Heap.get?_push_size _ rfl))
    have hz8s : h8.objs.size = g2.objs.size + 1 := by rw [hs8.1, hs7.1, Heap.size_push]
    refine wpAny_pure ⟨_, rfl, ?_⟩
    show Q (.ref g2.objs.size) ⟨h8, g, d, tk2, os⟩
    rw [k2.1] at hT8 hz8s ⊢
    exact hQ x1 x2 h8 tk2 _ _ hx1 hx2 (.inr ⟨_, rfl⟩) hz8 ⟨x1, x2, up _ _ S.TOz hT2⟩ (D1.frame _ _ _ hj1 fun b hb o e => up b o (fun q => S.zf1 (q ▸ hb)) e) (D2.frame _ _ _ hj2 fun b hb o e => up b o (fun q => S.zf2 (q ▸ hb)) e) hT8 hz8s
      fun c o hc e => up c o (fun q => hc (by simp [q])) (k2.2 c o hc e)
  | false =>
    simp only [Bool.false_eq_true, if_false]
    rw [← Array.forIn_toList]
    simp only [List.forIn_cons, List.forIn_nil]
    refine wpAny_bind (wpAny_bind (wpAny_bind (wpAny_holding ?_)))
    show wpAny _ _ (Builtin.SmallTypes.nextOf (.ref i1) >>= _) _ _ ⟨ha, g, d, tk0, os⟩
    refine wpAny_bind (D1.item i _ _ _ hlt1 sa1 fun x1 p1 tk1 hx1 sn1 hp1 => wpAny_pure (wpAny_pure ?_))
    replace hp1 : Heap.SameBut i1 ha p1 := hp1
    refine wpAny_bind (wpAny_bind (wpAny_holding ?_))
    show wpAny _ _ (Builtin.SmallTypes.nextOf (.ref i2) >>= _) _ _ ⟨p1, g, d, tk1, os⟩
    refine wpAny_bind (D2.item i _ _ _ hlt2 (D2.over sa2 hp1 S.sep1_2) fun x2 p2 tk2 hx2 sn2 hp2 => wpAny_pure (wpAny_pure (wpAny_pure ?_)))
    replace hp2 : Heap.SameBut i2 p1 p2 := hp2
    have k2 : Kp [z, TO, i1, i2] hp p2 := (ka.trans (.of hp1 m1)).trans (.of hp2 m2)
    have hzz : IsZf p2 z TI TO f0 fa := hp2.extBut _ _ S.zi2 (hp1.extBut _ _ S.zi1 hza)
    have hj1 : St1 (i + 1) p2 := D1.over sn1 hp2 S.sep2_1
    have hTT : IsTupOf2 p2 TO u0 v0 := hp2.extBut _ _ S.Ti2 (hp1.extBut _ _ S.Ti1 hTOa)
    show wpAny _ _ (newTuple [x1, x2] >>= _) _ _ ⟨p2, g, d, tk2, os⟩
    refine wpAny_bind (wpAny_newTuple (wpAny_pure ⟨_, rfl, ?_⟩))
    show Q (.ref p2.objs.size) ⟨p2.push { cls := .type "tuple", data := .seq #[x1, x2] }, g, d, tk2, os⟩
    have up : ∀ c o, p2.get? c = some o → (p2.push { cls := .type "tuple", data := .seq #[x1, x2] }).get? c = some o := fun c o e => Heap.get?_push_of_some _ e
    have hT8 : IsTupOf2 (p2.push { cls := .type "tuple", data := .seq #[x1, x2] }) p2.objs.size x1 x2 := Heap.get?_push_size _ rfl
    have hz8s : (p2.push { cls := .type "tuple", data := .seq #[x1, x2] }).objs.size = p2.objs.size + 1 := Heap.size_push ..
    generalize p2.push { cls := .type "tuple", data := .seq #[x1, x2] } = h8 at up hT8 hz8s ⊢
    rw [k2.1] at hT8 hz8s ⊢
    exact hQ x1 x2 _ tk2 _ _ hx1 hx2 ok (up _ _ hzz) ⟨_, _, up _ _ hTT⟩ (D1.frame _ _ _ hj1 fun b hb o e => up _ _ e) (D2.frame _ _ _ sn2 fun b hb o e => up _ _ e) hT8 hz8s fun c o hc e => up _ _ (k2.2 c o hc e)
theorem zip_stop {Q : Fin → Shared → Prop} (S : ZipSep2 z TI TO i1 i2 fp1 fp2) (D1 : Draws prog w A i1 fp1 n1 P1 St1) (D2 : Draws prog w A i2 fp2 n2 P2 St2)
    (hz : IsZf s.heap z TI TO f0 f1) (ok : zOk f0) (hTI : IsTupOf2 s.heap TI (.ref i1) (.ref i2)) (hTO : ∃ u v, IsTupOf2 s.heap TO u v) (st1 : St1 i s.heap) (st2 : St2 i s.heap) (hend : i = min n1 n2)
    (hE : ∀ h' tk e, (∀ c o, c ∉ [z, TO, i1, i2] → s.heap.get? c = some o → h'.get? c = some o) → (∃ o, h'.get? e = some o ∧ o.cls = .type "StopIteration") → E (.ref e) { s with heap := h', toks := tk }) :
    wpAny (model prog w) A (Builtin.«zip.__next__» ⟨[.ref z], []⟩) Q E s := by
  obtain ⟨hp, g, d, tk0, os⟩ := s
  obtain ⟨u0, v0, hTO⟩ := hTO
  have m0 : z ∈ [z, TO, i1, i2] := by simp
  have mT : TO ∈ [z, TO, i1, i2] := by simp
  have m1 : i1 ∈ [z, TO, i1, i2] := by simp
  have m2 : i2 ∈ [z, TO, i1, i2] := by simp
  have kx : ∀ {a : Addr} {h h' : Heap}, a ∈ [z, TO, i1, i2] → Heap.ExtBut a h h' → ∀ c o, c ∉ [z, TO, i1, i2] → h.get? c = some o → h'.get? c = some o := fun {a h h'} m x c o hc q => x c o (fun z => hc (z ▸ m)) q
  show wpAny _ _ (field (.ref z) 2 >>= _) _ _ _
  refine wpAny_bind (wpAny_field hz rfl (x := .bool false) rfl ?_)
  show wpAny _ _ (field (.ref z) 3 >>= _) _ _ _
  refine wpAny_bind (wpAny_field hz rfl (x := .ref TI) rfl ?_)
  refine wpAny_bind (wpAny_seqItems hTI rfl ?_)
  show wpAny _ _ (Builtin.SmallTypes.ownedTupleIsFree (.ref z) >>= _) _ _ _
  refine wpAny_bind (own_free hz ok fun b ha fa hza hsa => ?_)
  replace hsa : Heap.SameBut z hp ha := hsa
  have hTOa : IsTupOf2 ha TO u0 v0 := hsa.extBut _ _ S.TOz hTO
  have sa1 : St1 i ha := D1.over st1 hsa S.zf1
  have sa2 : St2 i ha := D2.over st2 hsa S.zf2
  have ka : Kp [z, TO, i1, i2] hp ha := .of hsa m0
  cases b with
  | true =>
    simp only [if_true]
    refine wpAny_bind (wpAny_rule ?_)
    refine wpAny_bind (wpAny_field (s := ⟨ha, g, d, tk0, os⟩) hza rfl (x := .ref TO) rfl ?_)
    refine wpAny_bind (wpAny_setField_rec (s := ⟨ha, g, d, tk0, os⟩) hza (by simp) fun g0 hz0 hs0 => ?_)
    replace hz0 : IsZf g0 z TI TO .ellipsis fa := hz0
    replace hs0 : Heap.SameBut z ha g0 := hs0
    have fin : ∀ (q : Heap) (tk : Nat) (e : Addr), IsZf q z TI TO .ellipsis fa → (∀ c o, c ∉ [z, TO, i1, i2] → hp.get? c = some o → q.get? c = some o) → (∃ o, q.get? e = some o ∧ o.cls = .type "StopIteration") →
        wpAny (model prog w) A (setField (.ref z) 0 .none) (fun _ s'' => E (.ref e) s'') E ⟨q, g, d, tk, os⟩ := fun q tk e hzq hq ⟨oe, hoe, hce⟩ => by
      have hez : e ≠ z := fun x => by subst x; rw [hzq] at hoe; cases hoe; simp at hce
      refine wpAny_setField_rec (s := ⟨q, g, d, tk, os⟩) hzq (by simp) fun q' _ hq' => ?_
      exact hE q' tk e (fun c o hc x => hq'.extBut _ _ (fun w => hc (w ▸ m0)) (hq c o hc x)) ⟨oe, hq'.extBut _ _ hez hoe, hce⟩
    refine wpAny_bind ?_
    simp only [List.zipIdx_cons, List.zipIdx_nil, List.forIn_cons, List.forIn_nil]
    refine wpAny_bind (wpAny_bind (wpAny_onRaise ?_))
    show wpAny _ _ (Builtin.SmallTypes.nextOf (.ref i1) >>= _) _ _ ⟨g0, g, d, tk0, os⟩
    by_cases hlt1 : i < n1
    · refine wpAny_bind (D1.item i _ _ _ hlt1 (D1.over sa1 hs0 S.zf1) fun x1 p1 tk1 hx1 sn1 hp1 => wpAny_pure ?_)
      replace hp1 : Heap.SameBut i1 g0 p1 := hp1
      have hU1 : IsTupOf2 p1 TO u0 v0 := hp1.extBut _ _ S.Ti1 (hs0.extBut _ _ S.TOz hTOa)
      refine wpAny_bind (wpAny_seqItems (s := ⟨p1, g, d, tk1, os⟩) hU1 rfl ?_)
      refine wpAny_bind (updateSeq_IsTupOf2 (s := ⟨p1, g, d, tk1, os⟩) hU1 fun g1 hT1 hs1 => ?_)
      replace hs1 : Heap.SameBut TO p1 g1 := hs1
      refine wpAny_bind (wpAny_letGo (wpAny_pure ?_))
      refine wpAny_bind (wpAny_bind (wpAny_onRaise ?_))
      show wpAny _ _ (Builtin.SmallTypes.nextOf (.ref i2) >>= _) _ _ ⟨g1, g, d, tk1, os⟩
      have hi2 : i = n2 := by omega
      refine wpAny_bind (D2.done ⟨g1, g, d, tk1, os⟩ _ _ (by rw [← hi2]; exact D2.over (D2.over (D2.over sa2 hs0 S.zf2) hp1 S.sep1_2) hs1 S.Tf2) fun q e hq he => ?_)
      have k1 : Kp [z, TO, i1, i2] hp g1 := ((ka.trans (.of hs0 m0)).trans (.of hp1 m1)).trans (.of hs1 mT)
      exact fin q tk1 e (hq _ _ S.zi2 (hs1.extBut _ _ S.TOz.symm (hp1.extBut _ _ S.zi1 hz0))) (fun c o hc x => kx m2 hq c o hc (k1.2 c o hc x)) he
    · have hi1 : i = n1 := by omega
      refine wpAny_bind (D1.done ⟨g0, g, d, tk0, os⟩ _ _ (by rw [← hi1]; exact D1.over sa1 hs0 S.zf1) fun q e hq he => ?_)
      have k1 : Kp [z, TO, i1, i2] hp g0 := ka.trans (.of hs0 m0)
      exact fin q tk0 e (hq _ _ S.zi1 hz0) (fun c o hc x => kx m1 hq c o hc (k1.2 c o hc x)) he
  | false =>
    simp only [Bool.false_eq_true, if_false]
    rw [← Array.forIn_toList]
    simp only [List.forIn_cons, List.forIn_nil]
    refine wpAny_bind (wpAny_bind (wpAny_bind (wpAny_holding ?_)))
    show wpAny _ _ (Builtin.SmallTypes.nextOf (.ref i1) >>= _) _ _ ⟨ha, g, d, tk0, os⟩
    by_cases hlt1 : i < n1
    · refine wpAny_bind (D1.item i _ _ _ hlt1 sa1 fun x1 p1 tk1 hx1 sn1 hp1 => wpAny_pure (wpAny_pure ?_))
      replace hp1 : Heap.SameBut i1 ha p1 := hp1
      refine wpAny_bind (wpAny_bind (wpAny_holding ?_))
      show wpAny _ _ (Builtin.SmallTypes.nextOf (.ref i2) >>= _) _ _ ⟨p1, g, d, tk1, os⟩
      have hi2 : i = n2 := by omega
      refine wpAny_bind (D2.done ⟨p1, g, d, tk1, os⟩ _ _ (by rw [← hi2]; exact D2.over sa2 hp1 S.sep1_2) fun q e hq he => ?_)
      exact hE q tk1 e (fun c o hc x => kx m2 hq c o hc ((ka.trans (.of hp1 m1)).2 c o hc x)) he
    · have hi1 : i = n1 := by omega
      refine wpAny_bind (D1.done ⟨ha, g, d, tk0, os⟩ _ _ (by rw [← hi1]; exact sa1) fun q e hq he => ?_)
      exact hE q tk0 e (fun c o hc x => kx m1 hq c o hc (ka.2 c o hc x)) he
/-- enumerate's step over whatever gives x -/
theorem en_next {e it : Addr} {c : Int} {old : Value} {Q : Value → Shared → Prop} {R1 : Value → Shared → Prop} (he : IsEnum s.heap e it c old) (hn : wpAny (model prog w) A (Builtin.SmallTypes.nextOf (.ref it)) (fun x s1 => IsEnum s1.heap e it c old ∧ R1 x s1) E s)
    (hQ : ∀ x s1 h', R1 x s1 → IsEnumOut h' e it (c + 1) x s1.heap.objs.size → IsTupOf2 h' s1.heap.objs.size (.int c s1.toks) x → h'.objs.size = s1.heap.objs.size + 1 →
      (∀ b o, b ≠ e → s1.heap.get? b = some o → h'.get? b = some o) → Q (.ref s1.heap.objs.size) { s1 with heap := h', toks := s1.toks + 1 }) :
    wpAny (model prog w) A (Builtin.«enumerate.__next__» ⟨[.ref e], []⟩) (fun fin s' => ∃ v, fin = .done (.ret v) ∧ Q v s') E s := by
  show wpAny _ _ (field (.ref e) 2 >>= _) _ _ _
  refine wpAny_bind (wpAny_field he rfl (x := .ref it) rfl ?_)
  refine wpAny_bind (wpAny_mono hn (fun x s1 hx => ?_) fun _ _ h => h)
  obtain ⟨he1, hr⟩ := hx
  obtain ⟨h1, g, d, tk, os⟩ := s1
  replace he1 : IsEnum h1 e it c old := he1
  show wpAny _ _ (field (.ref e) 3 >>= _) _ _ ⟨h1, g, d, tk, os⟩
  refine wpAny_bind (wpAny_field he1 rfl (x := rawInt c) rfl ?_)
  show wpAny _ _ (field (.ref e) 4 >>= _) _ _ ⟨h1, g, d, tk, os⟩
  refine wpAny_bind (wpAny_field he1 rfl (x := .none) rfl ?_)
  show wpAny _ _ (mkInt c >>= _) _ _ ⟨h1, g, d, tk, os⟩
  refine wpAny_bind (wpAny_mkInt ?_)
  show wpAny _ _ (setField (.ref e) 3 (rawInt (c + 1)) >>= _) _ _ ⟨h1, g, d, tk + 1, os⟩
  refine wpAny_bind (wpAny_setField_rec he1 (by simp) fun h2 he2 hs2 => ?_)
  replace hs2 : Heap.SameBut e h1 h2 := hs2
  replace he2 : IsEnum h2 e it (c + 1) old := he2
  show wpAny _ _ (setField (.ref e) 4 .none >>= _) _ _ ⟨h2, g, d, tk + 1, os⟩
  refine wpAny_bind (wpAny_setField_rec he2 (by simp) fun h3 he3 hs3 => ?_)
  replace hs3 : Heap.SameBut e h2 h3 := hs3
  replace he3 : IsEnum h3 e it (c + 1) old := he3
  show wpAny _ _ (newTuple [.int c tk, x] >>= _) _ _ ⟨h3, g, d, tk + 1, os⟩
  refine wpAny_bind (wpAny_newTuple ?_)
  have he4 : IsEnum (h3.push { cls := .type "tuple", data := .seq #[.int c tk, x] }) e it (c + 1) old := Heap.get?_push_of_some _ he3
  have ht4 : IsTupOf2 (h3.push { cls := .type "tuple", data := .seq #[.int c tk, x] }) h3.objs.size (.int c tk) x := Heap.get?_push_size _ rfl
  have hz4 : (h3.push { cls := .type "tuple", data := .seq #[.int c tk, x] }).objs.size = h3.objs.size + 1 := Heap.size_push ..
  have hk4 : ∀ b o, h3.get? b = some o → (h3.push { cls := .type "tuple", data := .seq #[.int c tk, x] }).get? b = some o := fun b o q => Heap.get?_push_of_some _ q
  show wpAny _ _ (Builtin.SmallTypes.ownedTupleIsFree (.ref e) >>= _) _ _ ⟨h3.push { cls := .type "tuple", data := .seq #[.int c tk, x] }, g, d, tk + 1, os⟩
  generalize h3.push { cls := .type "tuple", data := .seq #[.int c tk, x] } = h4 at he4 ht4 hz4 hk4 ⊢
  have hsz : h3.objs.size = h1.objs.size := by rw [hs3.1, hs2.1]
  have hel : e < h1.objs.size := Heap.lt_size he1
  rw [hsz] at ht4 hz4 ⊢
  refine wpAny_bind ?_
  unfold Builtin.SmallTypes.ownedTupleIsFree
  refine wpAny_bind (wpAny_field he4 rfl (x := .none) rfl (wpAny_pure ?_))
  simp only [if_true]
  refine wpAny_bind (wpAny_rule ?_)
  refine wpAny_bind (wpAny_field he4 rfl (x := old) rfl ?_)
  refine wpAny_bind (wpAny_setField_rec he4 (by simp) fun h5 he5 hs5 => ?_)
  replace hs5 : Heap.SameBut e h4 h5 := hs5
  replace he5 : IsEnum h5 e it (c + 1) x := he5
  show wpAny _ _ (Builtin.SmallTypes.ownedTupleHandOut (.ref e) (.ref h1.objs.size) >>= _) _ _ ⟨h5, g, d, tk + 1, os⟩
  refine wpAny_bind ?_
  unfold Builtin.SmallTypes.ownedTupleHandOut
  refine wpAny_bind (wpAny_setField_rec he5 (by simp) fun h6 he6 hs6 => ?_)
  replace hs6 : Heap.SameBut e h5 h6 := hs6
  replace he6 : IsEnumOut h6 e it (c + 1) x h1.objs.size := he6
  refine wpAny_setField_rec he6 (by simp) fun h7 he7 hs7 => ?_
  replace hs7 : Heap.SameBut e h6 h7 := hs7
  replace he7 : IsEnumOut h7 e it (c + 1) x h1.objs.size := he7
  have up : ∀ b o, b ≠ e → h4.get? b = some o → h7.get? b = some o := fun b o hb q => hs7.extBut b o hb (hs6.extBut b o hb (hs5.extBut b o hb q))
  exact wpAny_bind (wpAny_letGo (wpAny_pure ⟨_, rfl, hQ x ⟨h1, g, d, tk, os⟩ h7 hr he7 (up _ _ (Nat.ne_of_gt hel) ht4) (by rw [hs7.1, hs6.1, hs5.1, hz4]) fun b o hb q => up b o hb (hk4 b o (hs3.extBut b o hb (hs2.extBut b o hb q)))⟩))
end
end PX

namespace PX
open PySem PySem.Spec PyProof.Rows L2

/-! ### enumerate(zip(a, b)) -/
def pairOb (x y : Value) : Obj := { cls := .type "tuple", data := .seq #[x, y] }
def ItEZ (K : Frag) (b1 : Bool) (a1 : Addr) (b2 : Bool) (a2 : Addr) : It :=
  ⟨fun i H => ∃ xs ys x y, SkSq K b1 H a1 xs ∧ SkSq K b2 H a2 ys ∧ xs[i]? = some x ∧ ys[i]? = some y,
    fun i H v H' => ∃ T T2 ob x y, v = .ref T ∧ H T2 = none ∧ upd H T2 (.frz ob (.tup [x, y])) T = none ∧ ob.dict = none ∧ H' = upd (upd H T2 (.frz ob (.tup [x, y]))) T (.tup [.int (i : Nat), .ref T2]) ∧
      (∀ xs, SkSq K b1 H a1 xs → xs[i]? = some x) ∧ ∀ ys, SkSq K b2 H a2 ys → ys[i]? = some y,
    fun i H => ∃ xs ys, SkSq K b1 H a1 xs ∧ SkSq K b2 H a2 ys ∧ i = min xs.length ys.length⟩
def tnEZ (b1 : Bool) (a1 : Addr) (b2 : Bool) (a2 e z TI TO i1 i2 : Addr) (i : Nat) (h : Heap) : Prop :=
  (∃ old, IsEnum h e z (0 + (i : Int)) old) ∧ (∃ f0 f1, zOk f0 ∧ IsZf h z TI TO f0 f1) ∧ IsTupOf2 h TI (.ref i1) (.ref i2) ∧ (∃ u v, IsTupOf2 h TO u v) ∧ SkIter b1 i1 a1 i h ∧ SkIter b2 i2 a2 i h
theorem turn_ez {P : Program} {w : World} {K : Frag} {elts : List Expr} {kk : Nat} {tpos : Pos} {b1 b2 : Bool} {a1 a2 e z TI TO i1 i2 : Addr} (S : ZipSep2 z TI TO i1 i2 [i1, a1] [i2, a2]) (n1 : a1 ≠ i1) (n2 : a2 ≠ i2) (ne : e ∉ [z, TI, TO, i1, i2, a1, a2]) :
    Turn P w K (.Tuple elts kk tpos) (ItEZ K b1 a1 b2 a2) [e, z, TI, TO, i1, i2] e (tnEZ b1 a1 b2 a2 e z TI TO i1 i2) where
  mem := by simp
  obj := fun i h st c hc => by
    obtain ⟨⟨old, he⟩, ⟨f0, f1, _, hz⟩, hTI, ⟨x, y, hTO⟩, h1, h2⟩ := st
    have q : c = e ∨ c = z ∨ c = TI ∨ c = TO ∨ c = i1 ∨ c = i2 := by simpa using hc
    rcases q with rfl | rfl | rfl | rfl | rfl | rfl
    · exact ⟨_, he, fun v q => nomatch q⟩
    · exact ⟨_, hz, fun v q => nomatch q⟩
    · exact ⟨_, hTI, fun v q => nomatch q⟩
    · exact ⟨_, hTO, fun v q => nomatch q⟩
    · exact sk_it_obj h1
    · exact sk_it_obj h2
  keep := fun i h h' st k => by
    obtain ⟨⟨old, he⟩, ⟨f0, f1, ok, hz⟩, hTI, ⟨x, y, hTO⟩, h1, h2⟩ := st
    exact ⟨⟨old, k e (by simp) _ he⟩, ⟨f0, f1, ok, k z (by simp) _ hz⟩, k TI (by simp) _ hTI, ⟨x, y, k TO (by simp) _ hTO⟩, sk_it_keep h1 fun o q => k i1 (by simp) o q, sk_it_keep h2 fun o q => k i2 (by simp) o q⟩
  item := by
    intro X hP hw hK hc i pins s σ H E I hf st hg
    subst hP hw hK
    obtain ⟨⟨old, he⟩, ⟨f0, f1, ok, hz⟩, hTI, hTO, h1, h2⟩ := st
    obtain ⟨xs, ys, x, y, qx, qy, hx, hy⟩ := hg
    obtain ⟨its, rv, p1, l1⟩ := sk_get I qx
    obtain ⟨its2, rv2, p2, l2⟩ := sk_get I qy
    obtain ⟨u, hu, ru⟩ := rv.get hx
    obtain ⟨u2, hu2, ru2⟩ := rv2.get hy
    have n0 : e ≠ z ∧ e ≠ TI ∧ e ≠ TO ∧ e ≠ i1 ∧ e ≠ i2 ∧ e ≠ a1 ∧ e ≠ a2 := by simpa using ne
    have D1 := sk_draws (prog := X.prog) (w := X.w) (A := X.A.in1.in1) b1 (I.ok.hd hc) i1 a1 n1 its.toArray
    have D2 := sk_draws (prog := X.prog) (w := X.w) (A := X.A.in1.in1) b2 (I.ok.hd hc) i2 a2 n2 its2.toArray
    have k1 := lt_of_some hu
    have k2 := lt_of_some hu2
    have hT : s.TypeIs (.ref e) "enumerate" := ⟨_, he, rfl⟩
    have hTz : s.TypeIs (.ref z) "zip" := ⟨_, hz, rfl⟩
    have helt : e < s.heap.objs.size := Heap.lt_size he
    unfold pyNext
    refine wpAny_bind (wpAny_attempt (wpAny_callSpecial?_slot (name := Str.ofString "__next__") hT F.slot_enumerate_next (wpAny_call_entry F.slot_enumerate_next hT F.entry_enumerate_next ?_ (F.args_enumerate_next_1 _))))
    refine en_next (R1 := fun v s1 => ∃ h1' tk g0 g1, s1 = { s with heap := h1', toks := tk } ∧ v = .ref s.heap.objs.size ∧ zOk g0 ∧ IsZf h1' z TI TO g0 g1 ∧ (∃ u v, IsTupOf2 h1' TO u v) ∧ SkIter b1 i1 a1 (i + 1) h1' ∧ SkIter b2 i2 a2 (i + 1) h1' ∧
        IsTupOf2 h1' s.heap.objs.size u u2 ∧ h1'.objs.size = s.heap.objs.size + 1 ∧ ∀ c o, c ∉ [z, TO, i1, i2] → s.heap.get? c = some o → h1'.get? c = some o) he ?_ ?_
    · unfold Builtin.SmallTypes.nextOf
      refine wpAny_bind (wpAny_callSpecial?_slot (name := Str.ofString "__next__") hTz F.slot_zip_next (wpAny_call_entry F.slot_zip_next hTz F.entry_zip_next ?_ (F.args_zip_next_1 _)))
      refine zip_next S D1 D2 hz ok hTI hTO ⟨h1, p1⟩ ⟨h2, p2⟩ (by simpa using k1) (by simpa using k2) fun x1 x2 h1' tk g0 g1 e1 e2 ok' hz' hTO' s1 s2 hT2 hsz hk => wpAny_pure ⟨hk e _ (by simp; exact ⟨n0.1, n0.2.2.1, n0.2.2.2.1, n0.2.2.2.2.1⟩) he, h1', tk, g0, g1, rfl, rfl, ok', hz', hTO', s1.1, s2.1, ?_, hsz, hk⟩
      have q1 : x1 = u := by
        have : its.toArray[i]? = some u := by simpa using hu
        exact Option.some.inj (e1.symm.trans this)
      have q2 : x2 = u2 := by
        have : its2.toArray[i]? = some u2 := by simpa using hu2
        exact Option.some.inj (e2.symm.trans this)
      subst q1 q2
      exact hT2
    · rintro v s1 h' ⟨h1', tk, g0, g1, rfl, rfl, ok', hz', ⟨u', v', hTO'⟩, s1, s2, hT2, hsz, hk⟩ ho hTt hsz' hk'
      refine wpAny_pure ⟨_, rfl, ?_⟩
      refine wpAny_letOwnedTupleGo_enum ho fun h'' he' hs' => ?_
      have up : ∀ c o, c ≠ e → h1'.get? c = some o → h''.get? c = some o := fun c o hc q => (hs'.2 c hc).trans (hk' c o hc q)
      have hT1s : h1'.objs.size ≠ e := Nat.ne_of_gt (by rw [hsz]; exact Nat.lt_succ_of_lt helt)
      have hTt' : IsTupOf2 h'' h1'.objs.size (.int (0 + (i : Int)) tk) (.ref s.heap.objs.size) := (hs'.2 _ hT1s).trans hTt
      have I1 : Inv X pins σ (upd H s.heap.objs.size (.frz (pairOb u u2) (.tup [x, y]))) { s with heap := h1', toks := tk } :=
        I.turnedNew (t' := tk) (ch := [e, z, TI, TO, i1, i2]) (fun c o hb q => hk c o (fun z => hb (by simp at z ⊢; rcases z with z | z | z | z <;> simp [z])) q) hf (Nat.le_refl _) ⟨hT2, by show 2 ≤ sizeLine; decide, [u, u2], .cons ru (.cons ru2 .nil), ⟨_, hT2, rfl, _, rfl⟩⟩
      have hne : h1'.objs.size ≠ s.heap.objs.size := by rw [hsz]; exact Nat.succ_ne_self _
      have ltf : ∀ c ∈ [e, z, TI, TO, i1, i2], c < s.heap.objs.size := fun c hcm => by
        have q : c = e ∨ c = z ∨ c = TI ∨ c = TO ∨ c = i1 ∨ c = i2 := by simpa using hcm
        rcases q with rfl | rfl | rfl | rfl | rfl | rfl
        · exact helt
        · exact Heap.lt_size hz
        · exact Heap.lt_size hTI
        · obtain ⟨_, _, q⟩ := hTO; exact Heap.lt_size q
        · obtain ⟨_, q, _⟩ := sk_it_obj h1; exact Heap.lt_size q
        · obtain ⟨_, q, _⟩ := sk_it_obj h2; exact Heap.lt_size q
      have hf1 : ∀ c ∈ [e], FpOk X pins (upd H s.heap.objs.size (.frz (pairOb u u2) (.tup [x, y]))) c := fun c hcm => by
        have hc' : c = e := List.mem_singleton.mp hcm
        subst hc'
        have q := hf c (by simp)
        exact ⟨by rw [upd_ne (Nat.ne_of_lt helt)]; exact q.1, q.2⟩
      have nT : upd H s.heap.objs.size (.frz (pairOb u u2) (.tup [x, y])) h1'.objs.size = none := I1.hok.fresh (Nat.le_refl _)
      have I2 : Inv X pins σ (upd (upd H s.heap.objs.size (.frz (pairOb u u2) (.tup [x, y]))) h1'.objs.size (.tup [.int (i : Nat), .ref s.heap.objs.size])) { s with heap := h'', toks := tk + 1 } :=
        I1.turnedNew (t' := tk + 1) (ch := [e]) (fun c o hb q => up c o (fun z => hb (by simp [z])) q) hf1 (Nat.le_refl _) ⟨by show 2 ≤ sizeLine; decide, [_, _], .cons ⟨tk, by rw [Int.zero_add]⟩ (.cons rfl .nil), ⟨_, hTt', rfl, _, rfl⟩⟩
      refine ⟨.ref h1'.objs.size, _, I2, rfl, ⟨_, _, pairOb u u2, x, y, rfl, I.hok.fresh (Nat.le_refl _), nT, rfl, rfl, fun l hl => by rw [sk_inj I qx hl]; exact hx, fun l hl => by rw [sk_inj I qy hl]; exact hy⟩, ⟨⟨.ref s.heap.objs.size, ?_⟩, ⟨g0, g1, ok', up _ _ (Ne.symm n0.1) hz'⟩, up _ _ (Ne.symm n0.2.1) (hk _ _ ?_ hTI), ⟨u', v', up _ _ (Ne.symm n0.2.2.1) hTO'⟩, sk_it_keep s1 fun o q => up _ _ (Ne.symm n0.2.2.2.1) q, sk_it_keep s2 fun o q => up _ _ (Ne.symm n0.2.2.2.2.1) q⟩, fun c hcm => ?_⟩
      · have e1 : (0 : Int) + ((i + 1 : Nat) : Int) = 0 + (i : Int) + 1 := by omega
        rw [e1]
        exact he'
      · simp
        exact ⟨S.TIz, S.TITO, S.TIi1, S.TIi2⟩
      · have l := ltf c hcm
        rw [upd_ne (Nat.ne_of_lt (by rw [hsz]; exact Nat.lt_succ_of_lt l)), upd_ne (Nat.ne_of_lt l)]
        exact (hf c hcm).1
  done := by
    intro X hP hw hK hc i pins s σ H E I hf st hg
    subst hP hw hK
    obtain ⟨⟨old, he⟩, ⟨f0, f1, ok, hz⟩, hTI, hTO, h1, h2⟩ := st
    obtain ⟨xs, ys, qx, qy, hend⟩ := hg
    obtain ⟨its, rv, p1, l1⟩ := sk_get I qx
    obtain ⟨its2, rv2, p2, l2⟩ := sk_get I qy
    have D1 := sk_draws (prog := X.prog) (w := X.w) (A := X.A.in1.in1) b1 (I.ok.hd hc) i1 a1 n1 its.toArray
    have D2 := sk_draws (prog := X.prog) (w := X.w) (A := X.A.in1.in1) b2 (I.ok.hd hc) i2 a2 n2 its2.toArray
    have hT : s.TypeIs (.ref e) "enumerate" := ⟨_, he, rfl⟩
    have hTz : s.TypeIs (.ref z) "zip" := ⟨_, hz, rfl⟩
    unfold pyNext
    refine wpAny_bind (wpAny_attempt (wpAny_callSpecial?_slot (name := Str.ofString "__next__") hT F.slot_enumerate_next (wpAny_call_entry F.slot_enumerate_next hT F.entry_enumerate_next ?_ (F.args_enumerate_next_1 _))))
    show wpAny _ _ (field (.ref e) 2 >>= _) _ _ _
    refine wpAny_bind (wpAny_field he rfl (x := .ref z) rfl ?_)
    unfold Builtin.SmallTypes.nextOf
    refine wpAny_bind (wpAny_bind (wpAny_callSpecial?_slot (name := Str.ofString "__next__") hTz F.slot_zip_next (wpAny_call_entry F.slot_zip_next hTz F.entry_zip_next ?_ (F.args_zip_next_1 _))))
    refine zip_stop S D1 D2 hz ok hTI hTO ⟨h1, p1⟩ ⟨h2, p2⟩ (by rw [hend, rv.length, rv2.length]; simp) fun h' tk x hk hx => ?_
    obtain ⟨o, ho, hcl⟩ := hx
    refine wpAny_bind (wpAny_isInstance (T := "StopIteration") (b := true) ⟨o, ho, hcl⟩ isSubtype_stop ?_)
    exact wpAny_pure ⟨rfl, I.turnedL (ch := [e, z, TI, TO, i1, i2]) (fun c o hb q => hk c o (fun z => hb (by simp at z ⊢; rcases z with z | z | z | z <;> simp [z])) q) hf⟩
  self := fun A i s Q E st h => by
    obtain ⟨⟨old, he⟩, _⟩ := st
    exact wpAny_pyIter_enum he h
def iEZ (K : Frag) (ta : TA) : TI := fun σ H R => ta σ H fun vs H1 => ∃ b1 a1 b2 a2 xs ys, vs = [.ref a1, .ref a2] ∧ SkSq K b1 H1 a1 xs ∧ SkSq K b2 H1 a2 ys ∧ R (ItEZ K b1 a1 b2 a2) H1
theorem pi_ez {X : Cx} {e e2 : Expr} {ta : TA} {p p2 pos pos2 tpos : Pos} {elts : List Expr} {kk : Nat} (hg : Gl X "enumerate") (hm : X.mg "enumerate" = none) (hg2 : Gl X "zip") (hm2 : X.mg "zip" = none) (ha : PA X [e, e2] ta)
    (hs : starEach [e, e2] X.env = (false, eval e X.env) :: starEach [e2] X.env := by rfl) (hpl : (backTo pos2 (starEach [e2] X.env)).any (·.1) = false := by rfl)
    (na : starEach [.Call (.Name "zip" p2) [e, e2] [] pos2] X.env = (false, eval (.Call (.Name "zip" p2) [e, e2] [] pos2) X.env) :: starEach [] X.env := by rfl) :
    PI X (.Tuple elts kk tpos) (.Call (.Name "enumerate" p) [.Call (.Name "zip" p2) [e, e2] [] pos2] [] pos) (iEZ X.K ta) := by
  constructor
  intro pins s σ H R I h
  refine Call_ (ld_blt I hg hm boot_enumerate (PyProof.Rows.callWith_type1 (args_cons ?_ na) na))
  refine Call_ (ld_blt I hg2 hm2 PyProof.Rows.boot_zip ?_)
  refine PyProof.Rows.callWith_type1 (thn (ha.run pos2 pins s σ H _ I h) fun us s1 ⟨vs, H1, I1, r1, b1, a1, b2, a2, xs, ys, ex, qx, qy, q⟩ => ?_) hs hpl
  subst ex
  cases r1 with
  | cons r rr =>
    cases rr with
    | cons r' rr =>
      cases rr
      cases r
      cases r'
      obtain ⟨its, rv, p1, l1⟩ := sk_get I1 qx
      obtain ⟨its2, rv2, p2, l2⟩ := sk_get I1 qy
      refine zip_begins2 (sk_begins b1 a1 its.toArray) (sk_begins b2 a2 its2.toArray) p1 p2 fun h' hz hTI hTO h1 h2 hsz hk => args_nil ?_
      have I2 : Inv X pins σ H1 { s1 with heap := h' } := I1.kept (t' := s1.toks) hk
      have S := zip_sep2 (N := s1.heap.objs.size) (fp1 := [a1]) (fp2 := [a2]) (fun c hc => by rw [List.mem_singleton.mp hc]; exact l1) (fun c hc => by rw [List.mem_singleton.mp hc]; exact l2)
      refine call_en1 (fun h => IsZip h (s1.heap.objs.size + 4) (s1.heap.objs.size + 2) (s1.heap.objs.size + 3) .none) (fun _ => s1.heap.objs.size + 4) (fun h => h) (fun prog w A E s Q h0 hQ => wpAny_pyIter_zip h0 hQ) hz ?_
      have hsz : h'.objs.size = s1.heap.objs.size + 5 := hsz
      have he : IsEnum (h'.push { cls := .type "enumerate", data := .fields #[.none, .bool false, .ref (s1.heap.objs.size + 4), rawInt 0, .none, .none] }) h'.objs.size (s1.heap.objs.size + 4) (0 + ((0 : Nat) : Int)) .none := Heap.get?_push_size h' rfl
      have up : ∀ c o, h'.get? c = some o → (h'.push { cls := .type "enumerate", data := .fields #[.none, .bool false, .ref (s1.heap.objs.size + 4), rawInt 0, .none, .none] }).get? c = some o := fun c o q => Heap.get?_push_of_some _ q
      refine wpAny_pyIter_enum he ?_
      have I3 : Inv X pins σ H1 { s1 with heap := h'.push { cls := .type "enumerate", data := .fields #[.none, .bool false, .ref (s1.heap.objs.size + 4), rawInt 0, .none, .none] } } := I2.kept (t' := s1.toks) up
      refine ⟨_, _, _, _, H1, rfl, I3, turn_ez S (Nat.ne_of_lt l1) (Nat.ne_of_lt (Nat.lt_succ_of_lt l2)) ?_, ⟨⟨_, he⟩, ⟨.none, false, .inl rfl, up _ _ hz⟩, up _ _ hTI, ⟨_, _, up _ _ hTO⟩, sk_start (up _ _ h1), sk_start (up _ _ h2)⟩, fun c hc => ?_, q⟩
      · rw [hsz]
        have q1 : s1.heap.objs.size + 5 ≠ a1 := fun z => by have := l1; rw [← z] at this; exact absurd this (Nat.not_lt.mpr (Nat.le_add_right _ _))
        have q2 : s1.heap.objs.size + 5 ≠ a2 := fun z => by have := l2; rw [← z] at this; exact absurd this (Nat.not_lt.mpr (Nat.le_add_right _ _))
        have n5 : ∀ k : Nat, k < 5 → (s1.heap.objs.size + 5 : Nat) ≠ s1.heap.objs.size + k := fun k hk z => by omega
        intro z
        have z : s1.heap.objs.size + 5 = s1.heap.objs.size + 4 ∨ s1.heap.objs.size + 5 = s1.heap.objs.size + 2 ∨ s1.heap.objs.size + 5 = s1.heap.objs.size + 3 ∨ s1.heap.objs.size + 5 = s1.heap.objs.size ∨ s1.heap.objs.size + 5 = s1.heap.objs.size + 1 ∨ s1.heap.objs.size + 5 = a1 ∨ s1.heap.objs.size + 5 = a2 := by
          simpa only [List.mem_cons, List.not_mem_nil, or_false] using z
        rcases z with z | z | z | z | z | z | z
        · exact n5 4 (by decide) z
        · exact n5 2 (by decide) z
        · exact n5 3 (by decide) z
        · exact n5 0 (by decide) z
        · exact n5 1 (by decide) z
        · exact q1 z
        · exact q2 z
      · have hle : s1.heap.objs.size ≤ c := by
          have e : c = h'.objs.size ∨ c = s1.heap.objs.size + 4 ∨ c = s1.heap.objs.size + 2 ∨ c = s1.heap.objs.size + 3 ∨ c = s1.heap.objs.size ∨ c = s1.heap.objs.size + 1 := by simpa only [List.mem_cons, List.not_mem_nil, or_false] using hc
          rw [hsz] at e
          rcases e with rfl | rfl | rfl | rfl | rfl | rfl
          · exact Nat.le_add_right _ _
          · exact Nat.le_add_right _ _
          · exact Nat.le_add_right _ _
          · exact Nat.le_add_right _ _
          · exact Nat.le_refl _
          · exact Nat.le_add_right _ _
        exact I1.fpOk hle (I1.hok.fresh hle)

/-! ### what they walk, by data -/
def seqB : D → Option (Bool × List D)
  | .list ds => some (true, ds)
  | .tuple ds => some (false, ds)
  | _ => none
section
variable {P : Program} {w : World} {K : Frag} {M : Prot} {H : Hp}
theorem seqB_cl {d : D} {b : Bool} {ds : List D} {v : V} (e : seqB d = some (b, ds)) (c : Cl P w K M H d v) : ∃ a xs, v = .ref a ∧ SkSq K b H a xs ∧ ClA P w K M H ds xs := by
  cases d with
  | list ds' =>
    cases e
    obtain ⟨a, xs, e, nm, r, c⟩ := c
    exact ⟨a, xs, e, .inl r, c⟩
  | tuple ds' =>
    cases e
    obtain ⟨a, xs, e, r, c⟩ := c
    exact ⟨a, xs, e, r.sq, c⟩
  | _ => cases e
theorem tin_pair {ts : List Tg} {T : Addr} {x y : V} {d d' : D} {u : HO} (h1 : Cl P w K M H d x) (h2 : Cl P w K M H d' y) (e : u = .tup [x, y]) (hT : H T = some u) : TIn P w K M H (.tp ts) (.tuple [d, d']) (.ref T) :=
  ⟨_, T, _, rfl, rfl, .inl (.inl (e ▸ hT)), ClA.cons h1 (ClA.cons h2 ClA.nil)⟩
end
def pairD (z : D × D) : D := .tuple [z.1, z.2]
def zipD (xs ys : List D) : List D := (xs.zip ys).map pairD
def enD : Nat → List D → List D
  | _, [] => []
  | k, d :: ds => .tuple [.int (k : Nat), d] :: enD (k + 1) ds
theorem zipD_get {xs ys : List D} {i : Nat} {d : D} (h : (zipD xs ys)[i]? = some d) : ∃ x y, xs[i]? = some x ∧ ys[i]? = some y ∧ d = .tuple [x, y] := by
  unfold zipD at h
  rw [List.getElem?_map] at h
  cases e : (xs.zip ys)[i]? with
  | none => rw [e] at h; cases h
  | some z =>
    rw [e] at h
    cases h
    have := List.getElem?_zip_eq_some.mp e
    exact ⟨z.1, z.2, this.1, this.2, rfl⟩
theorem zipD_len {xs ys : List D} : (zipD xs ys).length = min xs.length ys.length := by unfold zipD; simp
theorem enD_len : ∀ {ds : List D} {k : Nat}, (enD k ds).length = ds.length
  | [], _ => rfl
  | d :: ds, k => by rw [enD, List.length_cons, List.length_cons, enD_len]
theorem enD_get : ∀ {ds : List D} {k i : Nat} {d : D}, (enD k ds)[i]? = some d → ∃ x, ds[i]? = some x ∧ d = .tuple [.int ((k + i : Nat) : Int), x]
  | [], _, _, _, h => by simp [enD] at h
  | d :: ds, k, 0, _, h => by simp [enD] at h; exact ⟨d, rfl, h.symm⟩
  | d :: ds, k, i + 1, _, h => by
    rw [enD, List.getElem?_cons_succ] at h
    obtain ⟨x, h1, h2⟩ := enD_get h
    exact ⟨x, h1, by rw [h2]; congr 3; omega⟩
section
variable {P : Program} {w : World} {K : Frag} {ts : List Tg} {d1 d2 : D} {b1 b2 : Bool} {a1 a2 : Addr} {ds1 ds2 : List D}
theorem wk_z2 (e1 : seqB d1 = some (b1, ds1)) (e2 : seqB d2 = some (b2, ds2)) : WkG P w K (.tp ts) [(d1, .ref a1), (d2, .ref a2)] (ItZ K b1 a1 b2 a2) (zipD ds1 ds2) := fun M H i hM hg => by
  obtain ⟨_, xs, q1, s1, c1⟩ := seqB_cl e1 (hg (d1, .ref a1) (by simp))
  cases q1
  obtain ⟨_, ys, q2, s2, c2⟩ := seqB_cl e2 (hg (d2, .ref a2) (by simp))
  cases q2
  refine ⟨fun d hd => ?_, fun hi => ⟨xs, ys, s1, s2, by rw [c1.length, c2.length, ← hi, zipD_len]⟩⟩
  obtain ⟨x, y, h1, h2, rfl⟩ := zipD_get hd
  obtain ⟨v, g1, k1⟩ := c1.get h1
  obtain ⟨v2, g2, k2⟩ := c2.get h2
  refine ⟨⟨xs, ys, v, v2, s1, s2, g1, g2⟩, ?_⟩
  rintro z H' ⟨T, x', y', rfl, nT, rfl, u1, u2⟩
  have r1 := u1 xs s1
  have r2 := u2 ys s2
  rw [g1] at r1; rw [g2] at r2
  cases r1; cases r2
  exact ⟨Gr.upd nT, fun ρ ρ' _ => tin_pair (k1.mv (Gr.upd nT).mv) (k2.mv (Gr.upd nT).mv) rfl upd_same⟩
theorem wk_en (e1 : seqB d1 = some (b1, ds1)) : WkG P w K (.tp ts) [(d1, .ref a1)] (ItE K b1 a1) (enD 0 ds1) := fun M H i hM hg => by
  obtain ⟨_, xs, q1, s1, c1⟩ := seqB_cl e1 (hg (d1, .ref a1) (by simp))
  cases q1
  refine ⟨fun d hd => ?_, fun hi => ⟨xs, s1, by rw [c1.length, ← hi, enD_len]⟩⟩
  obtain ⟨x, h1, rfl⟩ := enD_get hd
  obtain ⟨v, g1, k1⟩ := c1.get h1
  refine ⟨⟨xs, v, s1, g1⟩, ?_⟩
  rintro z H' ⟨T, x', rfl, nT, rfl, u1⟩
  have r1 := u1 xs s1
  rw [g1] at r1
  cases r1
  rw [Nat.zero_add]
  exact ⟨Gr.upd nT, fun ρ ρ' _ => tin_pair rfl (k1.mv (Gr.upd nT).mv) rfl upd_same⟩
theorem wk_ez (e1 : seqB d1 = some (b1, ds1)) (e2 : seqB d2 = some (b2, ds2)) : WkG P w K (.tp ts) [(d1, .ref a1), (d2, .ref a2)] (ItEZ K b1 a1 b2 a2) (enD 0 (zipD ds1 ds2)) := fun M H i hM hg => by
  obtain ⟨_, xs, q1, s1, c1⟩ := seqB_cl e1 (hg (d1, .ref a1) (by simp))
  cases q1
  obtain ⟨_, ys, q2, s2, c2⟩ := seqB_cl e2 (hg (d2, .ref a2) (by simp))
  cases q2
  refine ⟨fun d hd => ?_, fun hi => ⟨xs, ys, s1, s2, by rw [c1.length, c2.length, ← hi, enD_len, zipD_len]⟩⟩
  obtain ⟨p, h0, rfl⟩ := enD_get hd
  obtain ⟨x, y, h1, h2, rfl⟩ := zipD_get h0
  obtain ⟨v, g1, k1⟩ := c1.get h1
  obtain ⟨v2, g2, k2⟩ := c2.get h2
  refine ⟨⟨xs, ys, v, v2, s1, s2, g1, g2⟩, ?_⟩
  rintro z H' ⟨T, T2, ob, x', y', rfl, nT2, nT, od, rfl, u1, u2⟩
  have r1 := u1 xs s1
  have r2 := u2 ys s2
  rw [g1] at r1; rw [g2] at r2
  cases r1; cases r2
  rw [Nat.zero_add]
  have cp : Cl P w K M (upd H T2 (.frz ob (.tup [v, v2]))) (.tuple [x, y]) (.ref T2) := cl_tupF hM nT2 od (ClA.cons k1 (ClA.cons k2 ClA.nil))
  have g : Gr H (upd (upd H T2 (.frz ob (.tup [v, v2]))) T (.tup [.int (i : Nat), .ref T2])) := (Gr.upd nT2).trans (Gr.upd nT)
  exact ⟨g, fun ρ ρ' _ => tin_pair rfl (cp.mv (Gr.upd nT).mv) rfl upd_same⟩
end
def sZip (f : SemA) : SemI := fun ρ => (f ρ).bind fun r => (clA r.1).bind fun ds => match ds with
  | [d1, d2] => (seqB d1).bind fun p => (seqB d2).bind fun q => some (zipD p.2 q.2, r.2)
  | _ => none
def sEn (f : SemA) : SemI := fun ρ => (f ρ).bind fun r => (clA r.1).bind fun ds => match ds with
  | [d1] => (seqB d1).bind fun p => some (enD 0 p.2, r.2)
  | _ => none
def sEz (f : SemA) : SemI := fun ρ => (f ρ).bind fun r => (clA r.1).bind fun ds => match ds with
  | [d1, d2] => (seqB d1).bind fun p => (seqB d2).bind fun q => some (enD 0 (zipD p.2 q.2), r.2)
  | _ => none
section
variable {X : Cx} {fa : SemA} {e e2 : Expr} {p p2 pos pos2 tpos : Pos} {elts : List Expr} {kk : Nat} {ts : List Tg}
theorem px_iz2 (hg : Gl X "zip") (hm : X.mg "zip" = none) (ha : PA X [e, e2] (txa X fa))
    (hs : starEach [e, e2] X.env = (false, eval e X.env) :: starEach [e2] X.env := by rfl) (hpl : (backTo pos (starEach [e2] X.env)).any (·.1) = false := by rfl) :
    PI X (.Tuple elts kk tpos) (.Call (.Name "zip" p) [e, e2] [] pos) (tI X.prog X.w X.K (.tp ts) (sZip fa)) := PI.wk (pi_z2 hg hm ha hs hpl) fun σ H R ⟨W, M, ρ, er, items, ρ', e, k⟩ => by
  obtain ⟨⟨os, ρ1⟩, e1, e⟩ := bnd e
  obtain ⟨ds, e2, e⟩ := bnd e
  dsimp only at e
  split at e
  · obtain ⟨⟨b1, l1⟩, e3, e⟩ := bnd e
    obtain ⟨⟨b2, l2⟩, e4, e⟩ := bnd e
    cases e
    refine ⟨W, M, ρ, er, os, _, e1, fun vs H1 er1 x1 s1 v1 => ?_⟩
    obtain ⟨v, r, rfl, c1, u, r', rfl, c2, c3⟩ := vo_clA v1 e2
    cases c3
    obtain ⟨a1, xs, rfl, q1, _⟩ := seqB_cl e3 c1
    obtain ⟨a2, ys, rfl, q2, _⟩ := seqB_cl e4 c2
    exact ⟨b1, a1, b2, a2, xs, ys, rfl, q1, q2, k _ H1 _ er1 x1 s1 (fun p hp => by
      rcases List.mem_cons.mp hp with rfl | hp
      · exact c1
      · rw [List.mem_singleton.mp hp]; exact c2) (wk_z2 e3 e4)⟩
  · cases e
theorem px_ien (hg : Gl X "enumerate") (hm : X.mg "enumerate" = none) (ha : PA X [e] (txa X fa)) (hs : starEach [e] X.env = [(false, eval e X.env)] := by rfl) :
    PI X (.Tuple elts kk tpos) (.Call (.Name "enumerate" p) [e] [] pos) (tI X.prog X.w X.K (.tp ts) (sEn fa)) := PI.wk (pi_en hg hm ha hs) fun σ H R ⟨W, M, ρ, er, items, ρ', e, k⟩ => by
  obtain ⟨⟨os, ρ1⟩, e1, e⟩ := bnd e
  obtain ⟨ds, e2, e⟩ := bnd e
  dsimp only at e
  split at e
  · obtain ⟨⟨b1, l1⟩, e3, e⟩ := bnd e
    cases e
    refine ⟨W, M, ρ, er, os, _, e1, fun vs H1 er1 x1 s1 v1 => ?_⟩
    obtain ⟨v, r, rfl, c1, c3⟩ := vo_clA v1 e2
    cases c3
    obtain ⟨a1, xs, rfl, q1, _⟩ := seqB_cl e3 c1
    exact ⟨b1, a1, xs, rfl, q1, k _ H1 _ er1 x1 s1 (fun p hp => by rw [List.mem_singleton.mp hp]; exact c1) (wk_en e3)⟩
  · cases e
theorem px_iez (hg : Gl X "enumerate") (hm : X.mg "enumerate" = none) (hg2 : Gl X "zip") (hm2 : X.mg "zip" = none) (ha : PA X [e, e2] (txa X fa))
    (hs : starEach [e, e2] X.env = (false, eval e X.env) :: starEach [e2] X.env := by rfl) (hpl : (backTo pos2 (starEach [e2] X.env)).any (·.1) = false := by rfl)
    (na : starEach [.Call (.Name "zip" p2) [e, e2] [] pos2] X.env = (false, eval (.Call (.Name "zip" p2) [e, e2] [] pos2) X.env) :: starEach [] X.env := by rfl) :
    PI X (.Tuple elts kk tpos) (.Call (.Name "enumerate" p) [.Call (.Name "zip" p2) [e, e2] [] pos2] [] pos) (tI X.prog X.w X.K (.tp ts) (sEz fa)) := PI.wk (pi_ez hg hm hg2 hm2 ha hs hpl na) fun σ H R ⟨W, M, ρ, er, items, ρ', e, k⟩ => by
  obtain ⟨⟨os, ρ1⟩, e1, e⟩ := bnd e
  obtain ⟨ds, e2, e⟩ := bnd e
  dsimp only at e
  split at e
  · obtain ⟨⟨b1, l1⟩, e3, e⟩ := bnd e
    obtain ⟨⟨b2, l2⟩, e4, e⟩ := bnd e
    cases e
    refine ⟨W, M, ρ, er, os, _, e1, fun vs H1 er1 x1 s1 v1 => ?_⟩
    obtain ⟨v, r, rfl, c1, u, r', rfl, c2, c3⟩ := vo_clA v1 e2
    cases c3
    obtain ⟨a1, xs, rfl, q1, _⟩ := seqB_cl e3 c1
    obtain ⟨a2, ys, rfl, q2, _⟩ := seqB_cl e4 c2
    exact ⟨b1, a1, b2, a2, xs, ys, rfl, q1, q2, k _ H1 _ er1 x1 s1 (fun p hp => by
      rcases List.mem_cons.mp hp with rfl | hp
      · exact c1
      · rw [List.mem_singleton.mp hp]; exact c2) (wk_ez e3 e4)⟩
  · cases e
end
end PX

namespace PX
open PySem PySem.Spec PyProof.Rows L2

/-! ### dicts whose keys are ints and texts -/
def keyD : D → Option Key
  | .int i => some (.inl i)
  | .str x => some (.inr x)
  | _ => none
def keysOk (ps : List (D × D)) : Bool := ps.all fun p => (keyD p.1).isSome
def lookD (ps : List (D × D)) (k : Key) : Option D := (ps.find? fun p => decide (keyD p.1 = some k)).map (·.2)
def putD (ps : List (D × D)) (k : Key) (d : D) : List (D × D) :=
  if (ps.any fun p => decide (keyD p.1 = some k)) = true then ps.map (fun p => if keyD p.1 = some k then (p.1, d) else p) else ps ++ [(kD k, d)]
theorem keyD_kD (k : Key) : keyD (kD k) = some k := by cases k <;> rfl
theorem keyD_of {d : D} {k : Key} (h : keyD d = some k) : d = kD k := by
  cases d with
  | int i => cases h; rfl
  | str x => cases h; rfl
  | _ => cases h
abbrev esK (kvs : List (Key × V)) : List (D × V) := kvs.map fun p => (kD p.1, p.2)
section
variable {P : Program} {w : World} {K : Frag} {M M' : Prot} {H H' : Hp}
theorem clpr {p : D × D} {e : D × V} : ClPr P w K M H p e ↔ e.1 = p.1 ∧ Cl P w K M H p.2 e.2 := by
  obtain ⟨k, d⟩ := p
  exact Iff.rfl
theorem clp_nil {es : List (D × V)} (h : ClP P w K M H [] es) : es = [] := h
theorem clp_inv {p : D × D} {ps : List (D × D)} {kvs : List (Key × V)} (h : ClP P w K M H (p :: ps) (esK kvs)) : ∃ kv r, kvs = kv :: r ∧ p.1 = kD kv.1 ∧ Cl P w K M H p.2 kv.2 ∧ ClP P w K M H ps (esK r) := by
  obtain ⟨e, r, he, hp, hr⟩ := h
  cases kvs with
  | nil => cases he
  | cons kv r' =>
    injection he with h1 h2
    subst h1 h2
    exact ⟨kv, r', rfl, (clpr.mp hp).1.symm, (clpr.mp hp).2, hr⟩
theorem clp_mk {p : D × D} {ps : List (D × D)} {kv : Key × V} {r : List (Key × V)} (e : p.1 = kD kv.1) (c : Cl P w K M H p.2 kv.2) (h : ClP P w K M H ps (esK r)) : ClP P w K M H (p :: ps) (esK (kv :: r)) :=
  ⟨(kD kv.1, kv.2), esK r, rfl, clpr.mpr ⟨e.symm, c⟩, h⟩
theorem clp_len : ∀ {ps : List (D × D)} {kvs : List (Key × V)}, ClP P w K M H ps (esK kvs) → kvs.length = ps.length
  | [], kvs, h => by
    cases kvs with
    | nil => rfl
    | cons _ _ => cases clp_nil h
  | p :: ps, _, h => by
    obtain ⟨kv, r, rfl, _, _, h⟩ := clp_inv h
    rw [List.length_cons, List.length_cons, clp_len h]
theorem clp_app : ∀ {ps qs : List (D × D)} {kvs ls : List (Key × V)}, ClP P w K M H ps (esK kvs) → ClP P w K M H qs (esK ls) → ClP P w K M H (ps ++ qs) (esK (kvs ++ ls))
  | [], _, kvs, _, h, h' => by
    cases kvs with
    | nil => exact h'
    | cons _ _ => cases clp_nil h
  | p :: ps, _, _, _, h, h' => by
    obtain ⟨kv, r, rfl, e, c, h⟩ := clp_inv h
    exact clp_mk e c (clp_app h h')
theorem clp_any (k : Key) : ∀ {ps : List (D × D)} {kvs : List (Key × V)}, ClP P w K M H ps (esK kvs) → (ps.any fun p => decide (keyD p.1 = some k)) = (kvs.any fun kv => decide (kv.1 = k))
  | [], kvs, h => by
    cases kvs with
    | nil => rfl
    | cons _ _ => cases clp_nil h
  | p :: ps, _, h => by
    obtain ⟨kv, r, rfl, e, c, h⟩ := clp_inv h
    rw [List.any_cons, List.any_cons, clp_any k h, e, keyD_kD]
    simp only [Option.some.injEq]
theorem clp_look (k : Key) : ∀ {ps : List (D × D)} {kvs : List (Key × V)}, ClP P w K M H ps (esK kvs) → (∀ d, lookD ps k = some d → ∃ v, valV kvs k = some v ∧ Cl P w K M H d v) ∧ (lookD ps k = none → valV kvs k = none)
  | [], kvs, h => by
    cases kvs with
    | nil => exact ⟨fun d q => (by cases q), fun _ => rfl⟩
    | cons _ _ => cases clp_nil h
  | p :: ps, _, h => by
    obtain ⟨kv, r, rfl, e, c, h⟩ := clp_inv h
    obtain ⟨h1, h2⟩ := clp_look k h
    by_cases hk : kv.1 = k
    · have hp : keyD p.1 = some k := by rw [e, keyD_kD, hk]
      have e1 : lookD (p :: ps) k = some p.2 := by unfold lookD; rw [List.find?_cons_of_pos (by simpa using hp)]; rfl
      rw [valV_pos hk, e1]
      exact ⟨fun d q => (by cases q; exact ⟨_, rfl, c⟩), fun q => (by cases q)⟩
    · have hp : ¬ keyD p.1 = some k := by
        rw [e, keyD_kD]
        exact fun z => hk (Option.some.inj z)
      have e1 : lookD (p :: ps) k = lookD ps k := by unfold lookD; rw [List.find?_cons_of_neg (by simpa using hp)]
      rw [valV_neg hk, e1]
      exact ⟨h1, h2⟩
theorem clp_map (k : Key) {d : D} {v : V} (cd : Cl P w K M H d v) : ∀ {ps : List (D × D)} {kvs : List (Key × V)}, ClP P w K M H ps (esK kvs) → ClP P w K M H (ps.map fun p => if keyD p.1 = some k then (p.1, d) else p) (esK (kvs.map fun kv => if kv.1 = k then (kv.1, v) else kv))
  | [], kvs, h => by
    cases kvs with
    | nil => exact h
    | cons _ _ => cases clp_nil h
  | p :: ps, _, h => by
    obtain ⟨kv, r, rfl, e, c, h⟩ := clp_inv h
    rw [List.map_cons, List.map_cons]
    by_cases hk : kv.1 = k
    · rw [if_pos (by rw [e, keyD_kD, hk]), if_pos hk]
      exact clp_mk e cd (clp_map k cd h)
    · rw [if_neg (by rw [e, keyD_kD]; exact fun z => hk (Option.some.inj z)), if_neg hk]
      exact clp_mk e c (clp_map k cd h)
theorem clp_put (k : Key) {d : D} {v : V} (cd : Cl P w K M H d v) {ps : List (D × D)} {kvs : List (Key × V)} (h : ClP P w K M H ps (esK kvs)) : ClP P w K M H (putD ps k d) (esK (putK kvs k v)) := by
  unfold putD putK
  rw [clp_any k h]
  by_cases q : (kvs.any fun kv => decide (kv.1 = k)) = true
  · rw [if_pos q, if_pos q]
    exact clp_map k cd h
  · rw [if_neg q, if_neg q]
    exact clp_app h (clp_mk rfl cd rfl)
/-- a dict with such keys is told by its keys -/
theorem dn_dK {a : Addr} {es : List (D × V)} {ps : List (D × D)} (h : DN P w K M H a es) (c : ClP P w K M H ps es) (ok : keysOk ps = true) : ∃ kvs, Rd H a (.dK kvs) ∧ es = esK kvs := by
  rcases h with h | ⟨xs, vs, r, rv, t, e, ne⟩
  · exact h
  · exfalso
    have hl : vs.length = xs.length := by rw [rv.length, List.length_map]
    cases xs with
    | nil => exact ne rfl
    | cons x xs =>
      cases vs with
      | nil => cases hl
      | cons v vs =>
        rw [e] at c
        cases ps with
        | nil => cases clp_nil c
        | cons p ps =>
          obtain ⟨e', r', he, hp, _⟩ := c
          injection he with h1 _
          subst h1
          unfold keysOk at ok
          rw [List.all_cons, Bool.and_eq_true] at ok
          have := ok.1
          rw [← (clpr.mp hp).1] at this
          cases this
theorem co_dK {a : Addr} {ps : List (D × D)} (h : Co P w K M H (.dict ps) a) (ok : keysOk ps = true) : ∃ kvs, H a = some (.dK kvs) ∧ ClP P w K M H ps (esK kvs) := by
  obtain ⟨es, h, c⟩ := h
  rcases h with ⟨kvs, r, e⟩ | ⟨xs, vs, r, rv, t, e, ne⟩
  · subst e; exact ⟨kvs, r, c⟩
  · obtain ⟨kvs, r', e'⟩ := dn_dK (.inr ⟨xs, vs, .inl r, rv, t, e, ne⟩) c ok
    rcases r' with r' | ⟨o, r'⟩
    · rw [r] at r'; cases r'
    · rw [r] at r'; cases r'
theorem co_mkK {a : Addr} {ps : List (D × D)} {kvs : List (Key × V)} (e : H a = some (.dK kvs)) (c : ClP P w K M H ps (esK kvs)) : Co P w K M H (.dict ps) a := ⟨_, .inl ⟨kvs, e, rfl⟩, c⟩
theorem cl_kV {k : Key} {d : D} {v : V} (e : keyD d = some k) (c : Sh P w K M H d v) : v = kV k := by
  cases d with
  | int i => cases e; exact c
  | str x => cases e; exact c
  | _ => cases e
end
section
variable {X : Cx}
def dIxD (x y : D) : Option D := match x with
  | .dict ps => (keyD y).bind fun k => if keysOk ps = true then lookD ps k else none
  | x => dIx x y
def dInD (x y : D) : Option D := match y with
  | .dict ps => (keyD x).bind fun k => if keysOk ps = true then some (.bool (lookD ps k).isSome) else none
  | y => dIn x y
def dNinD (x y : D) : Option D := match y with
  | .dict ps => (keyD x).bind fun k => if keysOk ps = true then some (.bool (!(lookD ps k).isSome)) else none
  | y => dNin x y
theorem sh_dK {P : Program} {w : World} {K : Frag} {M : Prot} {H : Hp} {ps : List (D × D)} {v : V} (h : Sh P w K M H (.dict ps) v) (ok : keysOk ps = true) : ∃ a kvs, v = .ref a ∧ Rd H a (.dK kvs) ∧ ClP P w K M H ps (esK kvs) := by
  obtain ⟨a, es, e, d, c⟩ := h
  obtain ⟨kvs, r, ee⟩ := dn_dK d c ok
  subst ee
  exact ⟨a, kvs, e, r, c⟩
theorem look_get {P : Program} {w : World} {K : Frag} {M : Prot} {H : Hp} {ps : List (D × D)} {kvs : List (Key × V)} {a : Addr} {k : Key} (r : Rd H a (.dK kvs)) (c : ClP P w K M H ps (esK kvs)) : ∃ o, DGet H a (kV k) o ∧ o.isSome = (lookD ps k).isSome ∧ ∀ d, lookD ps k = some d → ∃ v, o = some v ∧ Cl P w K M H d v := by
  obtain ⟨h1, h2⟩ := clp_look k c
  refine ⟨valV kvs k, .inl ⟨kvs, k, r, rfl, rfl⟩, ?_, h1⟩
  cases e : lookD ps k with
  | none => rw [h2 e] <;> rfl
  | some d =>
    obtain ⟨v, q, _⟩ := h1 d e
    rw [q] <;> rfl
theorem xd_ixD (hu : HasRoom X) : IxD X dIxD := fun value slice pins s σ H M x y v u dx dy dz Q I hM rx ry hx hy e q hs => by
  unfold dIxD at e; split at e
  · rename_i ps
    obtain ⟨k, ek, e⟩ := bnd e
    split at e
    · rename_i ok
      obtain ⟨a, kvs, rfl, r, c⟩ := sh_dK hx ok
      obtain rfl := cl_kV ek hy
      obtain ⟨z, hv, cz⟩ := (clp_look k c).1 _ e
      cases rx
      obtain ⟨zl, hd, vs, rel, dd⟩ := dk_rd I.hok r
      obtain ⟨w', hw, rw'⟩ := RelO.some_of (v := z) (o := valueAt vs k) (by rw [← hv]; exact rel.val k)
      exact subscriptTail_builtinR (x := w') dd.typeIs PySem.F.slot_dict_getitem.lookup (wpAny_getItem_of (Q := fun r s' => r = w' ∧ EP X pins σ Q r s') (kV_is ry) dd.mapOf hw ⟨rfl, z, H, I.tok _, rw', q z H .refl cz⟩) hs
    · cases e
  · exact xd_ix value slice pins s σ H M x y v u _ dy dz Q I hM rx ry hx hy e q hs
theorem od_inD (hu : HasRoom X) : OpD X (compareOp .In) dInD := fun pins s σ H M x y v u dx dy dz Q I hM rx ry hx hy e q => by
  unfold dInD at e; split at e
  · rename_i ps
    obtain ⟨k, ek, e⟩ := bnd e
    split at e
    · rename_i ok
      cases e
      obtain ⟨a, kvs, rfl, r, c⟩ := sh_dK hy ok
      obtain rfl := cl_kV ek hx
      obtain ⟨o, g, e1, _⟩ := look_get (k := k) r c
      cases ry
      refine d_in (by have : X.A.units + 100 < cLine := hu; omega) I g rx fun s' I' => ⟨.bl o.isSome, H, I', rfl, q _ H .refl ?_⟩
      rw [e1]
      rfl
    · cases e
  · exact od_in hu pins s σ H M x y v u dx _ dz Q I hM rx ry hx hy e q
theorem od_ninD (hu : HasRoom X) : OpD X (compareOp .NotIn) dNinD := fun pins s σ H M x y v u dx dy dz Q I hM rx ry hx hy e q => by
  unfold dNinD at e; split at e
  · rename_i ps
    obtain ⟨k, ek, e⟩ := bnd e
    split at e
    · rename_i ok
      cases e
      obtain ⟨a, kvs, rfl, r, c⟩ := sh_dK hy ok
      obtain rfl := cl_kV ek hx
      obtain ⟨o, g, e1, _⟩ := look_get (k := k) r c
      cases ry
      refine d_notIn (by have : X.A.units + 100 < cLine := hu; omega) I g rx fun s' I' => ⟨.bl (!o.isSome), H, I', rfl, q _ H .refl ?_⟩
      rw [e1]
      rfl
    · cases e
  · exact od_nin hu pins s σ H M x y v u dx _ dz Q I hM rx ry hx hy e q
/-- {} -/
def sDnew : SemE := fun ρ => some (.cl (.dict []), ρ)
theorem noSl_dnew : noSl sDnew := fun ρ o ρ' e => by cases e; exact ⟨_, rfl⟩
theorem px_dnewO {pos : Pos} : PE X (.Dict [] [] pos) (txo X sDnew) := PE.wk pe_dnewK fun σ H Q ⟨W, M, ρ, er, o, ρ', e, k⟩ => by
  cases e
  exact fun p n => k p _ (er.frs (Gr.upd n) n ⟨_, upd_same⟩) (Gr.upd n).ext .refl n (nm_fresh er n) (co_mkK upd_same rfl)
/-- x[k] = e, a dict of a slot -/
def sSubD (i : Nat) (fk fe : SemE) : SemS := fun ρ => (fe ρ).bind fun r => (clO r.1).bind fun d => match r.2[i]? with
  | some (.mu _ (.dict _)) => (fk r.2).bind fun r2 => (clO r2.1).bind fun kd => (keyD kd).bind fun k => match r2.2[i]? with
    | some (.mu o (.dict ps)) => if keysOk ps = true ∧ ps.length < sizeLine then some (.nx (r2.2.set i (.mu o (.dict (putD ps k d))))) else none
    | _ => none
  | _ => none
theorem px_subD {f fk : SemE} {i : Nat} {x : Str} {e ek : Expr} {pos pos' apos : Pos} (hu : HasRoom X) (hN : X.N[i]? = some x) (hv : Vis X.env.scope x) (he : PE X e (tx X f)) (hei : PE X ek (tx X fk))
    (hs : swapsWith e (some (.Subscript (.Name x pos') ek apos)) pos.line X.env = pure false := by rfl) (hd : (x == ("__debug__" : Str)) = false := by decide) (hcd : (x == ("__classdict__" : Str)) = false := by decide) :
    PS X (.Assign [.Subscript (.Name x pos') ek apos] e pos) (txs X (sSubD i fk f)) :=
  PS.wk (ps_dput (by have : X.A.units + 100 < cLine := hu; omega) (pe_var hN hv hd hcd) hei he hs) fun E σ H ⟨F, W, M, ρ, sr, out, e, k⟩ => by
    obtain ⟨⟨o1, ρ1⟩, e1, e⟩ := bnd e
    obtain ⟨d, e2, e⟩ := bnd e
    dsimp only at e e2
    split at e
    · rename_i ow0 ps0 q0
      obtain ⟨⟨o2, ρ2⟩, e3, e⟩ := bnd e
      obtain ⟨kd, e4, e⟩ := bnd e
      obtain ⟨kk, e5, e⟩ := bnd e
      dsimp only at e e4
      split at e
      · rename_i ow ps q
        split at e
        · rename_i ok
          cases e
          refine ⟨W, M, ρ, sr.er, o1, ρ1, e1, fun v H1 er1 x1 s1 v1 => ?_⟩
          obtain ⟨a, g1, g2, _⟩ := er1.mu i ow0 _ q0
          refine ⟨.ref a, g1, W, M, ρ1, er1, o2, ρ2, e3, fun kv H2 er2 x2 s2 v2 => ?_⟩
          obtain ⟨a', p1, p2, p3⟩ := er2.mu i ow _ q
          rw [g1] at p1; cases p1
          obtain ⟨kvs, p4, p5⟩ := co_dK p3 ok.1
          have c := (v1.mv (x2.mv er1.wm) s2).clean e2
          have sr2 := (sr.step er1 x1 s1).step er2 x2 s2
          obtain rfl := cl_kV e5 (v2.clean e4).sh
          have mv : Mv M H2 M (upd H2 a (.dK (putK kvs kk v))) := ext_upd.mv fun b z => z ▸ er2.wm a p2
          exact ⟨a, _, rfl, .inl ⟨kvs, kk, p4, rfl, by rw [clp_len p5]; exact ok.2, rfl⟩, k W M σ _ (sr2.chg q g1 (co_mkK upd_same (clp_put kk (c.mv mv) (p5.mv mv))))⟩
        · cases e
      · cases e
    · cases e
end
end PX

namespace PX
open PySem PySem.Spec PyProof.Rows L2

/-! ### dict comprehensions -/
def dcompS (t : Tg) (c : SemT) (ek e : SemE) (vs : List Nat) : List D → List (D × D) → En → Option (List (D × D) × En)
  | [], ps, ρ => some (ps, ρ)
  | d :: ds, ps, ρ => (asg t d ρ).bind fun ρ1 => (c ρ1).bind fun r => if r.1 = true then
      (ek r.2).bind fun r2 => (clO r2.1).bind fun kd => (keyD kd).bind fun k => (e r2.2).bind fun r3 => (clO r3.1).bind fun y => if ps.length < sizeLine then dcompS t c ek e vs ds (putD ps k y) (wipeE r3.2 vs) else none
    else dcompS t c ek e vs ds ps (wipeE r.2 vs)
def sDComp (t : Tg) (f : SemI) (c : SemT) (ek e : SemE) (vs : List Nat) : SemE := fun ρ => (f ρ).bind fun r => if noMu ρ vs = true ∧ (∀ j ∈ t.sl, j ∈ vs) then
  (dcompS t c ek e vs r.1 [] (wipeE r.2 vs)).bind fun r2 => some (.cl (.dict r2.1), unwE r.2 r2.2 vs) else none
theorem noSl_dcomp {t : Tg} {f : SemI} {c : SemT} {ek e : SemE} {vs : List Nat} : noSl (sDComp t f c ek e vs) := fun ρ o ρ' h => by
  obtain ⟨r, e1, h⟩ := bnd h
  split at h
  · obtain ⟨r2, e2, h⟩ := bnd h
    cases h
    exact ⟨_, rfl⟩
  · cases h
section
variable {X : Cx} {t : Tg} {f : SemI} {c : SemT} {gk g : SemE} {vs : List Nat} {σ : L2.St} {H : Hp} {Q : VK}
theorem dc_wk (q : txo X (sDComp t f c gk g vs) σ H Q) : tDc (tI X.prog X.w X.K t f) (tG X.prog X.w X.K t) (txt X c) (tx X gk) (tx X g) vs σ H Q := by
  obtain ⟨W, M, ρ, er, d, ρ', e, k⟩ := q
  obtain ⟨⟨items, ρ1⟩, e1, e⟩ := bnd e
  dsimp only at e
  split at e
  · rename_i ck
    obtain ⟨hnm, hsl⟩ := ck
    obtain ⟨⟨ys, ρf⟩, e2, e⟩ := bnd e
    cases e
    refine ⟨W, M, ρ, er, items, ρ1, e1, fun J H1 gs er1 x1 s1 hgs wk D nD => ?_⟩
    have nm1 : noMu ρ1 vs = true := List.all_eq_true.mpr fun i hi => by rw [← s1.mo i]; exact List.all_eq_true.mp hnm i hi
    have nMD : ¬ M D := nm_fresh er1 nD
    have nWD : ¬ W D := fun z => nMD (er.wm D z)
    have wσ : ∀ {M : Prot} {H : Hp} {ρ ρ' : En} {σ2 : L2.St}, Asd X.prog X.w X.K W M t.sl ρ ρ' (wipe σ vs) σ2 H → wipe σ2 vs = wipe σ vs := fun a => (wipe_ot a.len a.ot hsl).trans (wipe_ot (l := vs) (wipe_length σ vs) (fun j hj => wipe_keep hj) fun _ h => h)
    have erD := (er1.wipe vs).frs (Gr.upd (o := .dK []) nD) nD ⟨_, upd_same⟩
    -- the state at turn i
    refine ⟨fun i m H => m = items.length - i ∧ i ≤ items.length ∧ ∃ ρi kvs ps, ER X.prog X.w X.K W (fun b => M b ∨ b = D) ρi (wipe σ vs) H ∧ H D = some (.dK kvs) ∧ ClP X.prog X.w X.K (fun b => M b ∨ b = D) H ps (esK kvs) ∧
        (∀ p ∈ gs, Cl X.prog X.w X.K (fun b => M b ∨ b = D) H p.1 p.2) ∧ Ext W M H1 H ∧ Wi vs ρ1 ρi ∧ dcompS t c gk g vs (items.drop i) ps ρi = some (ys, ρf),
      ⟨_, rfl, Nat.zero_le _, wipeE ρ1 vs, [], [], erD, upd_same, rfl, fun p hp => (hgs p hp).mv (mv_fresh nD), (Gr.upd nD).ext, .wipe, e2⟩, ?_⟩
    rintro i m H2 ⟨rfl, hi, ρi, kvs, ps, eri, hD, hacc, hgi, xi, wii, ei⟩
    obtain ⟨w1, w2⟩ := wk _ H2 i eri.md hgi
    by_cases hlt : i < items.length
    · rw [List.drop_eq_getElem_cons hlt] at ei
      obtain ⟨ρ2, ea, ei⟩ := bnd (show (asg t items[i] ρi).bind _ = some (ys, ρf) from ei)
      obtain ⟨⟨b, ρ3⟩, ec, ei⟩ := bnd ei
      obtain ⟨go, yl⟩ := w1 _ (List.getElem?_eq_getElem hlt)
      refine .inr ⟨go, fun H => ∃ ρi kvs ps, ER X.prog X.w X.K W (fun b => M b ∨ b = D) ρi (wipe σ vs) H ∧ H D = some (.dK kvs) ∧ ClP X.prog X.w X.K (fun b => M b ∨ b = D) H ps (esK kvs) ∧
        (∀ p ∈ gs, Cl X.prog X.w X.K (fun b => M b ∨ b = D) H p.1 p.2) ∧ Ext W M H1 H ∧ Wi vs ρ1 ρi ∧ dcompS t c gk g vs (items.drop (i + 1)) ps ρi = some (ys, ρf), fun H' hN => ⟨items.length - (i + 1), by omega, rfl, hlt, hN⟩, fun x H' hy => ?_⟩
      obtain ⟨gr, ti⟩ := yl x H' hy
      have eri' := eri.gr gr
      refine ⟨W, _, ρi, _, eri', ti ρi ρ2 ea, ρ2, ea, fun σ2 a2 => ⟨wσ a2, ?_⟩⟩
      refine ⟨W, _, ρ2, a2.er, b, ρ3, ec, fun H3 er3 x3 s3 => ?_⟩
      have xe : ∀ {Ha Hb : Hp}, Ext W (fun b => M b ∨ b = D) Ha Hb → Ext W M Ha Hb := fun x b o h nw => ⟨(x b o h nw).1, fun hm => (x b o h nw).2 (.inl hm)⟩
      have x13 : Ext W M H1 H3 := (xi.trans gr.ext).trans (xe x3)
      have wi3 : Wi vs ρ1 ρ3 := (wii.trans (a2.wi hsl)).trans s3.wi
      have hD' : H' D = some (.dK kvs) := gr D _ hD
      have hD3 : H3 D = some (.dK kvs) := (x3 D _ hD' nWD).2 (.inr rfl)
      have mv3 : Mv (fun b => M b ∨ b = D) H2 (fun b => M b ∨ b = D) H3 := ⟨fun b h => .inl h, fun b o nb h => (x3 b o (gr b o h) fun z => nb (a2.er.wm b z)).1⟩
      dsimp only at ei ⊢
      cases b with
      | false =>
        rw [if_neg Bool.false_ne_true] at ei ⊢
        refine ⟨wipeE ρ3 vs, kvs, ps, by rw [← wσ a2]; exact er3.wipe vs, hD3, hacc.mv mv3, fun p hp => (hgi p hp).mv mv3, x13, wi3.trans .wipe, ei⟩
      | true =>
        rw [if_pos rfl] at ei ⊢
        obtain ⟨⟨ok, ρ4⟩, ek, ei⟩ := bnd ei
        obtain ⟨dk, edk, ei⟩ := bnd ei
        obtain ⟨kk, ekk, ei⟩ := bnd ei
        obtain ⟨⟨oy, ρ5⟩, ey, ei⟩ := bnd ei
        obtain ⟨dy, edy, ei⟩ := bnd ei
        dsimp only at ei
        split at ei
        · rename_i hlen
          refine ⟨W, _, ρ3, er3, ok, ρ4, ek, fun yk H4 er4 x4 s4 v4 => ⟨W, _, ρ4, er4, oy, ρ5, ey, fun y H5 er5 x5 s5 v5 => ?_⟩⟩
          have hD4 : H4 D = some (.dK kvs) := (x4 D _ hD3 nWD).2 (.inr rfl)
          have hD5 : H5 D = some (.dK kvs) := (x5 D _ hD4 nWD).2 (.inr rfl)
          have mvn : ∀ {Ha Hb : Hp}, Mv (fun b => M b ∨ b = D) H2 (fun b => M b ∨ b = D) Ha → Ext W (fun b => M b ∨ b = D) Ha Hb → Mv (fun b => M b ∨ b = D) H2 (fun b => M b ∨ b = D) Hb := fun m x => ⟨fun b h => .inl h, fun b o nb h => by
            obtain ⟨o1, e1, k1⟩ := m.st b o nb h
            obtain ⟨⟨o2, e2, k2⟩, _⟩ := x b o1 e1 fun z => nb (a2.er.wm b z)
            exact ⟨o2, e2, k1.trans k2⟩⟩
          have mv5 := mvn (mvn mv3 x4) x5
          have mvu : Mv (fun b => M b ∨ b = D) H5 (fun b => M b ∨ b = D) (upd H5 D (.dK (putK kvs kk y))) := ext_upd.mv fun b z => z ▸ .inr rfl
          obtain rfl := cl_kV ekk (v4.clean edk).sh
          refine ⟨kvs, kk, rfl, hD5, by rw [clp_len hacc]; exact hlen, wipeE ρ5 vs, putK kvs kk y, putD ps kk dy, ?_, upd_same, ?_, fun p hp => ((hgi p hp).mv mv5).mv mvu, ext_app ((x13.trans (xe x4)).trans (xe x5)) nD, ((wi3.trans s4.wi).trans s5.wi).trans .wipe, ei⟩
          · rw [← wσ a2]
            exact (er5.wipe vs).updD (.inr rfl) nWD
          · exact clp_put kk ((v5.clean edy).mv mvu) ((hacc.mv mv5).mv mvu)
        · cases ei
    · rw [List.drop_eq_nil_of_le (by omega)] at ei
      cases ei
      refine .inl ⟨w2 (by omega), ?_⟩
      obtain ⟨u1, u2⟩ := er1.unw ⟨fun b h => h.elim .inl fun z => .inr (z ▸ nD), (xi.mv er.wm).st⟩ nm1 eri wii.mo wii.pu
      exact k D H2 u1 (x1.trans xi) (s1.trans u2) (ext_none x1 er1 nD) nMD (co_mkK hD hacc)
  · cases e
end
section
variable {X : Cx} {t : Tg} {f : SemI} {c : SemT} {gk g : SemE} {kx elt tg iter : Expr} {ifs : List Expr} {scope : Scope} {own : List (Str × Nat)} {pos spos : Pos}
abbrev BlkX (X : Cx) (scope : Scope) (p : Cx → Prop) : Prop := ∀ (s : Shared) (H : Hp) (C : Addr) (cl : List (Str × Addr)) (fp : List Addr), p (X.blk s H scope (compEnvC scope cl C X.env) fp)
theorem px_dcO (hc : X.calm = true) (hN : X.N.Nodup) (hi : PI X tg iter (tI X.prog X.w X.K t f)) (ok : BlkOk X.N X.env.scope scope own)
    (hg : BlkX X scope fun Y => PG Y tg (tG X.prog X.w X.K t)) (ht : BlkX X scope fun Y => PTs Y ifs (tXT X.prog X.w X.K c))
    (hk : BlkX X scope fun Y => PE Y kx (tX X.prog X.w X.K gk)) (he : BlkX X scope fun Y => PE Y elt (tX X.prog X.w X.K g)) (hs : ∀ x, foldedSetIterable iter X.env x = pure x := by intro _; rfl) :
    PE X (.DictComp kx elt [⟨tg, iter, ifs, 0⟩] scope pos) (txo X (sDComp t f c gk g (own.map (·.2)))) := PE.wk (pe_dc hc hN hi ok hg ht hk he hs) fun σ H Q q => dc_wk q
theorem ps_setDc {i : Nat} {y : Str} {py : Pos} {wi : TI} {gg : TG} {tt : TT} {tk te : TE} (hc : X.calm = true) (hN : X.N.Nodup) (hy : X.N[i]? = some y) (hyl : X.env.scope.names.lookup y = some .local)
    (hsw : swapsWith (.DictComp kx elt [⟨tg, iter, ifs, 0⟩] scope pos) (some (.Name y py)) spos.line X.env = pure true) (hi : PI X tg iter wi) (ok : BlkOk X.N X.env.scope scope own)
    (hg : BlkX X scope fun Y => PG Y tg gg) (ht : BlkX X scope fun Y => PTs Y ifs tt)
    (hk : BlkX X scope fun Y => PE Y kx tk) (he : BlkX X scope fun Y => PE Y elt te) (hs : ∀ x, foldedSetIterable iter X.env x = pure x := by intro _; rfl) :
    PS X (.Assign [.Name y py] (.DictComp kx elt [⟨tg, iter, ifs, 0⟩] scope pos) spos) (tAsg (tDc wi gg tt tk te (own.map (·.2))) (gName i)) := by
  constructor
  intro pins s σ H D I h
  rw [exec_Assign_Name_used _ _ _ _ hsw]
  refine wpAny_bind (wpAny_standAt (wpAny_bind ?_))
  show wpAny _ X.A (do let _ ← comprehension (.DictComp kx elt [⟨tg, iter, ifs, 0⟩] scope pos) scope X.env (firstIterPos [⟨tg, iter, ifs, 0⟩] pos) newDict false (eval iter X.env) (some (assign (.Name y py) X.env))) _ _ s
  have h : tDc wi gg tt tk te (own.map (·.2)) σ H (fun x H1 => gName i x σ H1 D.nx) := h
  refine wpAny_bind (thn (dc_core (Qf := fun _ s' => SP X pins D .next s') hc hN I hi ok hg ht hk he hs h fun L C s' m H' I' q hn fo => ?_) fun _ s' hq => wpAny_pure (wpAny_pure hq))
  show wpAny _ _ (assign (.Name y py) X.env (.ref L)) _ _ _
  refine wpAny_assign_Name (store_ok2 (v := V.ref L) I' hN hy (.inl hyl) rfl (fun s2 I2 ⟨a, sb, ha⟩ => ?_) (.inr hyl))
  obtain ⟨f0, f1, f2, f3, f4, f5⟩ := fo
  have haC : C ≠ a := by
    rcases ha with z | z
    · rw [z]; exact f1
    · exact fun e => f4 y a z e.symm
  exact ⟨m, hn.sameBut sb haC, fun h3 sb3 => ⟨_, H', I2.turned (t' := s2.toks) (fun b o hb e => (sb3.2 b hb).trans e) f0 f1 f3 f4 f5, q⟩⟩
theorem px_setDcO {i : Nat} {y : Str} {py : Pos} (hc : X.calm = true) (hN : X.N.Nodup) (hy : X.N[i]? = some y) (hyl : X.env.scope.names.lookup y = some .local)
    (hsw : swapsWith (.DictComp kx elt [⟨tg, iter, ifs, 0⟩] scope pos) (some (.Name y py)) spos.line X.env = pure true) (hi : PI X tg iter (tI X.prog X.w X.K t f)) (ok : BlkOk X.N X.env.scope scope own)
    (hg : BlkX X scope fun Y => PG Y tg (tG X.prog X.w X.K t)) (ht : BlkX X scope fun Y => PTs Y ifs (tXT X.prog X.w X.K c))
    (hk : BlkX X scope fun Y => PE Y kx (tX X.prog X.w X.K gk)) (he : BlkX X scope fun Y => PE Y elt (tX X.prog X.w X.K g)) (hs : ∀ x, foldedSetIterable iter X.env x = pure x := by intro _; rfl) :
    PS X (.Assign [.Name y py] (.DictComp kx elt [⟨tg, iter, ifs, 0⟩] scope pos) spos) (txs X (sSetO i (sDComp t f c gk g (own.map (·.2))))) :=
  PS.wk (ps_setDc hc hN hy hyl hsw hi ok hg ht hk he hs) fun E σ H q => dc_wk (setO_wk noSl_dcomp q)
theorem px_setDc {i : Nat} {y : Str} {py : Pos} (hc : X.calm = true) (hN : X.N.Nodup) (hy : X.N[i]? = some y) (hyl : X.env.scope.names.lookup y = some .local)
    (hsw : swapsWith (.DictComp kx elt [⟨tg, iter, ifs, 0⟩] scope pos) (some (.Name y py)) spos.line X.env = pure true) (hi : PI X tg iter (tI X.prog X.w X.K t f)) (ok : BlkOk X.N X.env.scope scope own)
    (hg : BlkX X scope fun Y => PG Y tg (tG X.prog X.w X.K t)) (ht : BlkX X scope fun Y => PTs Y ifs (tXT X.prog X.w X.K c))
    (hk : BlkX X scope fun Y => PE Y kx (tX X.prog X.w X.K gk)) (he : BlkX X scope fun Y => PE Y elt (tX X.prog X.w X.K g)) (hs : ∀ x, foldedSetIterable iter X.env x = pure x := by intro _; rfl) :
    PS X (.Assign [.Name y py] (.DictComp kx elt [⟨tg, iter, ifs, 0⟩] scope pos) spos) (txs X (sSet i (sDComp t f c gk g (own.map (·.2))))) :=
  PS.wk (ps_setDc hc hN hy hyl hsw hi ok hg ht hk he hs) fun E σ H q => by
    obtain ⟨F, W, M, ρ, sr, out, e, k⟩ := q
    obtain ⟨⟨o1, ρ1⟩, e1, e⟩ := bnd e
    obtain ⟨d, e2, e⟩ := bnd e
    obtain ⟨ρ2, e3, e⟩ := bnd e
    cases e
    obtain ⟨d', rfl⟩ := noSl_dcomp _ _ _ e1
    exact dc_wk ⟨W, M, ρ, sr.er, d', ρ1, e1, fun a H1 er1 x1 s1 n nm co => k W M _ H1 ((sr.step (er1.shr sr.er.wm) x1 s1).setP e3 (by cases e2; exact co_cl nm co))⟩
end
end PX

namespace PX
open PySem PySem.Spec PyProof.Rows L2

/-! ### the keys of a dict in lists -/
section
variable {P : Program} {w : World} {K : Frag} {M : Prot} {H : Hp}
theorem clp_keys : ∀ {ps : List (D × D)} {kvs : List (Key × V)}, ClP P w K M H ps (esK kvs) → ClA P w K M H (ps.map (·.1)) (kvs.map fun kv => kV kv.1)
  | [], kvs, h => by
    cases kvs with
    | nil => rfl
    | cons _ _ => cases clp_nil h
  | p :: ps, _, h => by
    obtain ⟨kv, r, rfl, e, c, h⟩ := clp_inv h
    refine ⟨kV kv.1, _, rfl, ?_, clp_keys h⟩
    show Cl P w K M H p.1 (kV kv.1)
    rw [e]
    cases kv.1 <;> rfl
theorem clp_vals : ∀ {ps : List (D × D)} {kvs : List (Key × V)}, ClP P w K M H ps (esK kvs) → ClA P w K M H (ps.map (·.2)) (kvs.map (·.2))
  | [], kvs, h => by
    cases kvs with
    | nil => rfl
    | cons _ _ => cases clp_nil h
  | p :: ps, _, h => by
    obtain ⟨kv, r, rfl, e, c, h⟩ := clp_inv h
    exact ⟨kv.2, _, rfl, c, clp_vals h⟩
end
section
variable {X : Cx}
/-- collect(d) -/
theorem col_dict {pins : List (Addr × Obj)} {σ : L2.St} {H : Hp} {s : Shared} {A : Around} {E : Value → Shared → Prop} (hh : A.handled = none) (I : Inv X pins σ H s) {a : Addr} {kvs : List (Key × V)} (hd : Rd H a (.dK kvs)) (R : List Value → Shared → Prop)
    (k : ∀ its h' tk, Vals (kvs.map fun kv => kV kv.1) its → (∀ b o, s.heap.get? b = some o → h'.get? b = some o) → R its { s with heap := h', toks := tk }) : wpAny (model X.prog X.w) A.in1 (collect (.ref a)) R E s := by
  obtain ⟨z, lo, vs, rel, dd⟩ := dk_rd I.hok hd
  obtain ⟨ep, hat⟩ := dd.dictAt
  have ek : (kvs.map fun kv => kV kv.1) = vs.map fun p => kV p.1 := by
    have e := congrArg (List.map kV) rel.keys
    rw [List.map_map, List.map_map] at e
    exact e
  refine PySem.W.kdu_collect (A := A.in1) (PySem.W.kdl_dict (knd := mixKind X.prog X.w) (kvs := vs) (ep := ep) lo) hh hat (by rw [← rel.length]; exact z) fun h' tk acc hk hacc => k _ h' tk ?_ hk
  rw [ek]
  exact keys_at (by rw [Array.length_toList]; exact hacc.1) fun j v e => hacc.2 j v (by rw [← Array.getElem?_toList]; exact e)
def dSortedD : List D → Option D
  | [.dict ps] => if keysOk ps = true then (sortD (ps.map (·.1))).bind fun ys => some (.list ys) else none
  | ds => dSorted ds
theorem co_sortedD (hc : X.calm = true) (hu : HasRoom X) : CallO X (.builtin "sorted") dSortedD := fun pins s σ H M xs us ds dz Q I hM r hx e q => by
  unfold dSortedD at e; split at e
  · split at e
    · rename_i ok
      obtain ⟨ys, e2, e⟩ := bnd e
      cases e
      obtain ⟨v, rfl, h⟩ := sh1 hx
      obtain ⟨a, kvs, rfl, rd, c⟩ := sh_dK h ok
      obtain ⟨u, rfl, rx⟩ := vals1 r
      cases rx
      exact sorted_any hu I hM (fun R k => col_dict (I.ok.hd hc) I rd R k) (clp_keys c) e2 q
    · cases e
  · exact co_sorted hu pins s σ H M xs us _ dz Q I hM r hx e q
def dListD : List D → Option D
  | [.dict ps] => if keysOk ps = true then some (.list (ps.map (·.1))) else none
  | ds => dList ds
theorem co_listD (hc : X.calm = true) : CallO X (.type "list") dListD := fun pins s σ H M xs us ds dz Q I hM r hx e q => by
  unfold dListD at e; split at e
  · split at e
    · rename_i ok
      cases e
      obtain ⟨v, rfl, h⟩ := sh1 hx
      obtain ⟨a, kvs, rfl, rd, c⟩ := sh_dK h ok
      refine call_listD hc pins s σ H _ us Q I r ⟨a, kvs, rfl, rd, fun p n => q p _ (Gr.upd n) n (fun z => by obtain ⟨o, e⟩ := hM _ z; rw [n] at e; cases e) ⟨_, upd_same, (clp_keys c).mv (mv_fresh n)⟩⟩
    · cases e
  · exact co_list pins s σ H M xs us _ dz Q I hM r hx e q
end
end PX

namespace PX
open PySem PySem.Spec PyProof.Rows L2

/-! ### words for the printed part -/
section
variable {X : Cx}
theorem pxv (i : Nat) {x : Str} {pos : Pos} (hN : X.N[i]? = some x := by rfl) (hv : Vis X.env.scope x := by first | exact Or.inl rfl | exact Or.inr (Or.inl rfl) | exact Or.inr (Or.inr rfl)) (hd : (x == ("__debug__" : Str)) = false := by decide)
    (hcd : (x == ("__classdict__" : Str)) = false := by decide) : PE X (.Name x pos) (tx X (sVar i)) := px_var hN hv hd hcd
theorem px_gI {x : Str} {i : Int} {pos : Pos} (hg : Gl X x) (hm : ∃ t, X.mg x = some (.int i t)) (hd : (x == ("__debug__" : Str)) = false := by decide) : PE X (.Name x pos) (tx X (sC (.int i))) :=
  hm.elim fun _ h => px_globI hg h hd
theorem hu100 {k : Nat} {A : Around} (hr : Room k A) : A.units + 100 < cLine := by
  have h : A.units + 16 * k + 200 < cLine := hr.un
  omega
end
def sFrzS (i : Nat) (g : SemS) : SemS := fun ρ => g (frz i ρ)
theorem px_frzS {X : Cx} {st : Stmt} {g : SemS} (i : Nat) (h : PS X st (txs X g)) : PS X st (txs X (sFrzS i g)) := PS.wk h fun E σ H ⟨F, W, M, ρ, sr, out, e, k⟩ => by
  obtain ⟨W', M', sr'⟩ := sr.frz i
  exact ⟨F, W', M', _, sr', out, e, k⟩
theorem px_frzSs {X : Cx} {st : List Stmt} {g : SemS} (i : Nat) (h : PSs X st (txs X g)) : PSs X st (txs X (sFrzS i g)) := px_frz i h
theorem seq_nx {g h : SemS} {ρ ρ' : En} (e : g ρ = some (.nx ρ')) : sSeq g h ρ = h ρ' := by
  show (g ρ).bind _ = _
  rw [e]
  rfl
theorem seq_rt {g h : SemS} {ρ ρ' : En} {d : D} (e : g ρ = some (.rt d ρ')) : sSeq g h ρ = some (.rt d ρ') := by
  show (g ρ).bind _ = _
  rw [e]
  rfl
def dPlus (a b : D) : Option D := match a, b with | .int p, .int q => some (.int (p + q)) | _, _ => none
def fuelW (_ : En) : Nat := 1000
end PX

set_option Elab.async false
set_option linter.all false
set_option maxRecDepth 100000
set_option maxHeartbeats 40000000
namespace PX
open PySem PySem.Spec PyProof.Rows L2

/-! ### what the defs compute -/
def g_is_whole : SemS := sRet (sAnd (sIsi .int (sVar 0)) (sNot (sIsi .bool (sVar 0))))
def m_is_whole : List D → Option D := runF 1 g_is_whole
def g_is_from : SemS := sRet (sAnd (sCall m_is_whole (sCons (sVar 0) (sNil))) (sChain dLe dLe (sVar 1) (sVar 0) (sVar 2)))
def m_is_from : List D → Option D := runF 3 g_is_from
def g_is_cells : SemS := sSeq (sIfS (sTOr (sTNot (sTst (sIsi .tuple (sVar 0)))) (sTOr (sTNot (sTst (sChain dLe dLe (sC (.int 1)) (sBlt dLen (sCons (sVar 0) (sNil))) (sC (.int 3))))) (sTNot (sTst (sBlt dAll (sCons (sComp (.nm 1) (sSeq1 (sVar 0)) (sYes) (sIsi .tuple (sVar 1)) [1]) (sNil))))))) (sRet (sC (.bool false))) (sDone)) (sSeq (sIfS (sTNot (sTst (sChain dLe dLe (sC (.int 1)) (sBlt dLen (sCons (sBin dIxD (sVar 0) (sC (.int 0))) (sNil))) (sC (.int 6))))) (sRet (sC (.bool false))) (sDone)) (sRet (sBlt dAll (sCons (sComp (.nm 1) (sSeq1 (sVar 0)) (sYes) (sAnd (sBin dEq (sBlt dLen (sCons (sVar 1) (sNil))) (sBlt dLen (sCons (sBin dIxD (sVar 0) (sC (.int 0))) (sNil)))) (sBlt dAll (sCons (sComp (.nm 2) (sSeq1 (sVar 1)) (sYes) (sCall m_is_from (sCons (sVar 2) (sCons (sC (.int 0)) (sCons (sBin dSub (sC (.int 5)) (sC (.int 1))) (sNil))))) [2]) (sNil)))) [1]) (sNil)))))
def m_is_cells : List D → Option D := runF 3 g_is_cells
def g__law_draw : SemS := sSeq (sSet 3 (sTup (sCons (sC (.int 1000003)) (sCons (sC (.int 1000033)) (sCons (sC (.int 1000037)) (sCons (sC (.int 1000039)) (sCons (sC (.int 1000081)) (sCons (sC (.int 1000099)) (sCons (sC (.int 1000117)) (sCons (sC (.int 1000121)) (sCons (sC (.int 1000133)) (sCons (sC (.int 1000151)) (sCons (sC (.int 1000159)) (sCons (sC (.int 1000171)) (sCons (sC (.int 1000183)) (sCons (sC (.int 1000187)) (sCons (sC (.int 1000193)) (sCons (sC (.int 1000199)) (sNil))))))))))))))))))) (sRet (sBin dMod (sBin dMod (sBlt dInt (sCons (sBin dAdd (sBin dMul (sVar 0) (sC (.int 48271))) (sBin dMul (sVar 1) (sC (.int 69621)))) (sNil))) (sBin dIxD (sVar 3) (sBin dMod (sBlt dInt (sCons (sVar 1) (sNil))) (sC (.int 16))))) (sVar 2)))
def m__law_draw : List D → Option D := runF 4 g__law_draw
def g__law_number : SemS := sSeq (sSet 3 (sC (.int 1))) (sSeq (sFor (.nm 4) (sRng1 (sCons (sBin dMod (sBlt dInt (sCons (sVar 1) (sNil))) (sC (.int 24))) (sNil))) (sSet 3 (sBin dMul (sVar 3) (sC (.int 1009))))) (sSeq (sSet 5 (sBin dDiv (sBin dSub (sVar 0) (sBin dPow (sC (.int 10)) (sC (.int 18)))) (sVar 3))) (sSeq (sIfS (sTst (sBin dGt (sVar 5) (sC (.int 0)))) (sRet (sBin dMod (sBin dMod (sBlt dInt (sCons (sVar 5) (sNil))) (sC (.int 1009))) (sVar 2))) (sDone)) (sSeq (sSet 6 (sBin dMod (sBlt dInt (sCons (sVar 0) (sNil))) (sC (.int 1000003)))) (sRet (sBin dMod (sCall m__law_draw (sCons (sBin dMul (sBin dAdd (sVar 6) (sBin dMul (sC (.int 977)) (sVar 1))) (sBin dAdd (sBin dAdd (sVar 6) (sBin dMul (sC (.int 31)) (sVar 1))) (sC (.int 5)))) (sCons (sBin dAdd (sBin dMod (sBlt dInt (sCons (sVar 1) (sNil))) (sC (.int 9))) (sC (.int 1))) (sCons (sC (.int 999983)) (sNil))))) (sVar 2)))))))
def m__law_number : List D → Option D := runF 7 g__law_number
def g__law_cell_at : SemS := sSeq (sIfS (sTst (sBin dLt (sVar 1) (sBlt dLen (sCons (sVar 0) (sNil))))) (sRet (sBin dIxD (sVar 0) (sVar 1))) (sDone)) (sRet (sC (.int 0)))
def m__law_cell_at : List D → Option D := runF 2 g__law_cell_at
def g__law_next : SemS := sSeq (sSubL 0 (sC (.int 2)) (sBin dAdd (sBin dIxD (sVar 0) (sC (.int 2))) (sC (.int 1)))) (sSeq (sSet 2 (sBin dDiv (sBin dIxD (sVar 0) (sC (.int 2))) (sC (.int 12)))) (sSeq (sSet 3 (sBin dAdd (sCall m__law_cell_at (sCons (sBin dIxD (sVar 0) (sC (.int 0))) (sCons (sBin dAdd (sBin dIxD (sVar 0) (sC (.int 1))) (sVar 2)) (sNil)))) (sBin dMul (sC (.int 31)) (sVar 2)))) (sRet (sCall m__law_number (sCons (sVar 3) (sCons (sBin dAdd (sBin dMod (sBlt dInt (sCons (sBin dIxD (sVar 0) (sC (.int 2))) (sNil))) (sC (.int 12))) (sC (.int 1))) (sCons (sVar 1) (sNil))))))))
def m__law_next : D → List D → Option (D × D) := runM 4 0 g__law_next
def g_check_cells : SemS := sIfS (sTNot (sTst (sCall m_is_cells (sCons (sVar 0) (sNil))))) (sNever) (sDone)
def m_check_cells : List D → Option D := runF 1 g_check_cells
def g_is_many : SemS := sRet (sAnd (sIsi .tuple (sVar 0)) (sBin dEq (sBlt dLen (sCons (sVar 0) (sNil))) (sVar 1)))
def m_is_many : List D → Option D := runF 2 g_is_many
def g_is_tally : SemS := sSeq (sDrop (sCall m_check_cells (sCons (sVar 0) (sNil)))) (sSeq (sIfS (sTNot (sTst (sCall m_is_many (sCons (sVar 1) (sCons (sBlt dLen (sCons (sVar 0) (sNil))) (sNil)))))) (sRet (sC (.bool false))) (sDone)) (sRet (sBlt dAll (sCons (sComp (.nm 2) (sSeq1 (sVar 1)) (sYes) (sAnd (sCall m_is_many (sCons (sVar 2) (sCons (sC (.int 5)) (sNil)))) (sBlt dAll (sCons (sComp (.nm 3) (sSeq1 (sVar 2)) (sYes) (sCall m_is_from (sCons (sVar 3) (sCons (sC (.int 0)) (sCons (sC (.int 40)) (sNil))))) [3]) (sNil)))) [2]) (sNil)))))
def m_is_tally : List D → Option D := runF 4 g_is_tally
def g_is_asking_to (rec_m : List D → Option D) : SemS := sSeq (sIfS (sTst (sIsi .bool (sVar 1))) (sRet (sC (.bool true))) (sDone)) (sSeq (sIfS (sTOr (sTst (sBin dEq (sVar 2) (sC (.int 0)))) (sTOr (sTNot (sTst (sCall m_is_many (sCons (sVar 1) (sCons (sC (.int 3)) (sNil)))))) (sTNot (sTst (sCall m_is_from (sCons (sBin dIxD (sVar 1) (sC (.int 0))) (sCons (sC (.int 0)) (sCons (sBin dSub (sVar 0) (sC (.int 1))) (sNil))))))))) (sRet (sC (.bool false))) (sDone)) (sRet (sAnd (sCall rec_m (sCons (sVar 0) (sCons (sBin dIxD (sVar 1) (sC (.int 1))) (sCons (sBin dSub (sVar 2) (sC (.int 1))) (sNil))))) (sCall rec_m (sCons (sVar 0) (sCons (sBin dIxD (sVar 1) (sC (.int 2))) (sCons (sBin dSub (sVar 2) (sC (.int 1))) (sNil))))))))
def m_is_asking_to : Nat → List D → Option D
  | 0 => fun _ => none
  | n + 1 => runF 3 (g_is_asking_to (m_is_asking_to n))
def g_is_asking : SemS := sSeq (sIfS (sTNot (sTst (sCall m_is_from (sCons (sVar 0) (sCons (sC (.int 1)) (sCons (sC (.int 4)) (sNil))))))) (sNever) (sDone)) (sRet (sCall (m_is_asking_to 14) (sCons (sVar 0) (sCons (sVar 1) (sCons (sC (.int 4)) (sNil))))))
def m_is_asking : List D → Option D := runF 2 g_is_asking
def g_ascends : SemS := sRet (sBlt dAll (sCons (sComp (.tp [.nm 1, .nm 2]) (sZip (sCons (sVar 0) (sCons (sSlice (sVar 0) (sPs (sC (.int 1))) (sPn)) (sNil)))) (sYes) (sBin dLt (sVar 1) (sVar 2)) [1, 2]) (sNil)))
def m_ascends : List D → Option D := runF 3 g_ascends
def g_is_lot : SemS := sRet (sAnd (sIsi .tuple (sVar 0)) (sAnd (sBlt dAll (sCons (sComp (.nm 2) (sSeq1 (sVar 0)) (sYes) (sCall m_is_from (sCons (sVar 2) (sCons (sC (.int 0)) (sCons (sBin dSub (sVar 1) (sC (.int 1))) (sNil))))) [2]) (sNil))) (sCall m_ascends (sCons (sVar 0) (sNil)))))
def m_is_lot : List D → Option D := runF 3 g_is_lot
def g_is_seen_letters : SemS := sSeq (sIfS (sTNot (sTst (sCall m_is_from (sCons (sVar 0) (sCons (sC (.int 1)) (sCons (sC (.int 4)) (sNil))))))) (sNever) (sDone)) (sSeq (sIfS (sTOr (sTNot (sTst (sIsi .tuple (sVar 1)))) (sTOr (sTst (sBin dGt (sBlt dLen (sCons (sVar 1) (sNil))) (sC (.int 12)))) (sTNot (sTst (sBlt dAll (sCons (sComp (.nm 2) (sSeq1 (sVar 1)) (sYes) (sCall m_is_many (sCons (sVar 2) (sCons (sC (.int 2)) (sNil)))) [2]) (sNil))))))) (sRet (sC (.bool false))) (sDone)) (sRet (sBlt dAll (sCons (sComp (.nm 2) (sSeq1 (sVar 1)) (sYes) (sAnd (sCall m_is_lot (sCons (sBin dIxD (sVar 2) (sC (.int 0))) (sCons (sVar 0) (sNil)))) (sIsi .bool (sBin dIxD (sVar 2) (sC (.int 1))))) [2]) (sNil)))))
def m_is_seen_letters : List D → Option D := runF 3 g_is_seen_letters
def g_is_calls : SemS := sRet (sAnd (sIsi .tuple (sVar 0)) (sAnd (sBin dLe (sBlt dLen (sCons (sVar 0) (sNil))) (sC (.int 30))) (sBlt dAll (sCons (sComp (.nm 1) (sSeq1 (sVar 0)) (sYes) (sCall m_is_from (sCons (sVar 1) (sCons (sC (.int 0)) (sCons (sC (.int 7)) (sNil))))) [1]) (sNil)))))
def m_is_calls : List D → Option D := runF 2 g_is_calls
def g_check_calls : SemS := sSeq (sIfS (sTNot (sTst (sCall m_is_calls (sCons (sVar 0) (sNil))))) (sNever) (sDone)) (sIfS (sTNot (sTst (sCall m_is_from (sCons (sVar 1) (sCons (sC (.int 1)) (sCons (sC (.int 5)) (sNil))))))) (sNever) (sDone))
def m_check_calls : List D → Option D := runF 2 g_check_calls
def g_is_kept_row : SemS := sSeq (sDrop (sCall m_check_calls (sCons (sVar 0) (sCons (sVar 1) (sNil))))) (sSeq (sIfS (sTOr (sTNot (sTst (sIsi .tuple (sVar 2)))) (sTst (sBin dNe (sBlt dLen (sCons (sVar 2) (sNil))) (sBlt dLen (sCons (sVar 0) (sNil)))))) (sRet (sC (.bool false))) (sDone)) (sSeq (sIfS (sTNot (sTst (sBlt dAll (sCons (sComp (.nm 3) (sSeq1 (sVar 2)) (sYes) (sAnd (sIsi .tuple (sVar 3)) (sAnd (sBin dLe (sBlt dLen (sCons (sVar 3) (sNil))) (sVar 1)) (sBlt dAll (sCons (sComp (.nm 4) (sSeq1 (sVar 3)) (sYes) (sCall m_is_from (sCons (sVar 4) (sCons (sC (.int 0)) (sCons (sC (.int 7)) (sNil))))) [4]) (sNil))))) [3]) (sNil))))) (sRet (sC (.bool false))) (sDone)) (sSeq (sIfS (sTNot (sTst (sBlt dAll (sCons (sComp (.nm 3) (sSeq1 (sVar 2)) (sYes) (sBin dEq (sBlt dListD (sCons (sVar 3) (sNil))) (sBlt dSortedD (sCons (sDComp (.nm 4) (sSeq1 (sVar 3)) (sYes) (sVar 4) (sC (.bool true)) [4]) (sNil)))) [3]) (sNil))))) (sRet (sC (.bool false))) (sDone)) (sSeq (sSet 5 (sTup (sCons (sTup (sNil)) (sStar (sVar 2) (sNil))))) (sRet (sBlt dAll (sCons (sComp (.tp [.nm 6, .tp [.nm 7, .nm 3]]) (sEz (sCons (sVar 0) (sCons (sVar 2) (sNil)))) (sYes) (sAnd (sBin dInD (sVar 7) (sVar 3)) (sBlt dAll (sCons (sComp (.nm 4) (sSeq1 (sVar 3)) (sYes) (sOr (sBin dEq (sVar 4) (sVar 7)) (sBin dInD (sVar 4) (sBin dIxD (sVar 5) (sVar 6)))) [4]) (sNil)))) [6, 7, 3]) (sNil))))))))
def m_is_kept_row : List D → Option D := runF 8 g_is_kept_row
def g_is_look_counts : SemS := sRet (sAnd (sIsi .tuple (sVar 0)) (sAnd (sChain dLe dLe (sC (.int 1)) (sBlt dLen (sCons (sVar 0) (sNil))) (sC (.int 8))) (sBlt dAll (sCons (sComp (.nm 1) (sSeq1 (sVar 0)) (sYes) (sCall m_is_from (sCons (sVar 1) (sCons (sC (.int 0)) (sCons (sC (.int 100)) (sNil))))) [1]) (sNil)))))
def m_is_look_counts : List D → Option D := runF 2 g_is_look_counts
def g_check_look_counts : SemS := sIfS (sTNot (sTst (sCall m_is_look_counts (sCons (sVar 0) (sNil))))) (sNever) (sDone)
def m_check_look_counts : List D → Option D := runF 1 g_check_look_counts
def g_is_search_in (rec_m : List D → Option D) : SemS := sSeq (sIfS (sTst (sBin dEq (sVar 1) (sVar 2))) (sRet (sUn isN (sVar 0))) (sDone)) (sSeq (sIfS (sTOr (sTNot (sTst (sCall m_is_many (sCons (sVar 0) (sCons (sC (.int 3)) (sNil)))))) (sTNot (sTst (sCall m_is_from (sCons (sBin dIxD (sVar 0) (sC (.int 0))) (sCons (sVar 1) (sCons (sBin dSub (sVar 2) (sC (.int 1))) (sNil)))))))) (sRet (sC (.bool false))) (sDone)) (sRet (sAnd (sCall rec_m (sCons (sBin dIxD (sVar 0) (sC (.int 1))) (sCons (sVar 1) (sCons (sBin dIxD (sVar 0) (sC (.int 0))) (sNil))))) (sCall rec_m (sCons (sBin dIxD (sVar 0) (sC (.int 2))) (sCons (sBin dAdd (sBin dIxD (sVar 0) (sC (.int 0))) (sC (.int 1))) (sCons (sVar 2) (sNil))))))))
def m_is_search_in : Nat → List D → Option D
  | 0 => fun _ => none
  | n + 1 => runF 3 (g_is_search_in (m_is_search_in n))
def g_is_search_tree : SemS := sSeq (sDrop (sCall m_check_look_counts (sCons (sVar 0) (sNil)))) (sRet (sCall (m_is_search_in 14) (sCons (sVar 1) (sCons (sC (.int 0)) (sCons (sBlt dLen (sCons (sVar 0) (sNil))) (sNil))))))
def m_is_search_tree : List D → Option D := runF 2 g_is_search_tree
def ls_0 : SemS := sSet 2 (sBin dAdd (sC (.int 1)) (sCallM 0 m__law_next (sCons (sVar 1) (sCons (sC (.int 6)) (sNil)))))
def ls_1 : SemS := sIfS (sTOr (sTNot (sTst (sCall m_is_cells (sCons (sBin dMul (sTup (sCons (sBin dMul (sTup (sCons (sC (.int 4)) (sNil))) (sVar 2)) (sNil))) (sC (.int 3))) (sNil))))) (sTOr (sTst (sCall m_is_cells (sCons (sBin dMul (sTup (sCons (sBin dMul (sTup (sCons (sC (.int 4)) (sNil))) (sVar 2)) (sNil))) (sC (.int 4))) (sNil)))) (sTOr (sTst (sCall m_is_cells (sCons (sTup (sCons (sBin dMul (sTup (sCons (sC (.int 5)) (sNil))) (sVar 2)) (sNil))) (sNil)))) (sTOr (sTst (sCall m_is_cells (sCons (sTup (sCons (sBin dMul (sTup (sCons (sC (.int 0)) (sNil))) (sC (.int 7))) (sNil))) (sNil)))) (sTst (sCall m_is_cells (sCons (sTup (sCons (sBin dMul (sTup (sCons (sC (.int 0)) (sNil))) (sVar 2)) (sCons (sBin dMul (sTup (sCons (sC (.int 0)) (sNil))) (sBin dAdd (sVar 2) (sC (.int 1)))) (sNil)))) (sNil)))))))) (sRet (sC (.bool false))) (sDone)
def ls_2 : SemS := sIfS (sTOr (sTst (sCall m_is_cells (sCons (sTup (sCons (sBin dMul (sLst (sCons (sC (.int 0)) (sNil))) (sVar 2)) (sNil))) (sNil)))) (sTOr (sTst (sCall m_is_cells (sCons (sLst (sCons (sBin dMul (sTup (sCons (sC (.int 0)) (sNil))) (sVar 2)) (sNil))) (sNil)))) (sTOr (sTst (sCall m_is_cells (sCons (sTup (sNil)) (sNil)))) (sTOr (sTst (sCall m_is_cells (sCons (sTup (sCons (sTup (sNil)) (sNil))) (sNil)))) (sTOr (sTst (sCall m_is_cells (sCons (sTup (sCons (sBin dMul (sTup (sCons (sC .none) (sNil))) (sVar 2)) (sNil))) (sNil)))) (sTst (sCall m_is_cells (sCons (sTup (sCons (sBin dMul (sTup (sCons (sC (.bool false)) (sNil))) (sVar 2)) (sNil))) (sNil))))))))) (sRet (sC (.bool false))) (sDone)
def ls_3 : SemS := sIfS (sTst (sCall m_is_cells (sCons (sC .none) (sNil)))) (sRet (sC (.bool false))) (sDone)
def ls_4 : SemS := sSet 3 (sTup (sCons (sBin dMul (sTup (sCons (sC (.int 0)) (sNil))) (sVar 2)) (sCons (sBin dMul (sTup (sCons (sC (.int 1)) (sNil))) (sVar 2)) (sNil))))
def ls_5 : SemS := sIfS (sTOr (sTNot (sTst (sCall m_is_tally (sCons (sVar 3) (sCons (sBin dMul (sTup (sCons (sTup (sCons (sC (.int 0)) (sCons (sC (.int 40)) (sCons (sC (.int 0)) (sCons (sC (.int 0)) (sCons (sC (.int 0)) (sNil))))))) (sNil))) (sC (.int 2))) (sNil)))))) (sTOr (sTst (sCall m_is_tally (sCons (sVar 3) (sCons (sBin dMul (sTup (sCons (sTup (sCons (sC (.int 0)) (sCons (sC (.int 41)) (sCons (sC (.int 0)) (sCons (sC (.int 0)) (sCons (sC (.int 0)) (sNil))))))) (sNil))) (sC (.int 2))) (sNil))))) (sTOr (sTst (sCall m_is_tally (sCons (sVar 3) (sCons (sTup (sCons (sBin dMul (sTup (sCons (sC (.int 0)) (sNil))) (sC (.int 5))) (sNil))) (sNil))))) (sTOr (sTst (sCall m_is_tally (sCons (sVar 3) (sCons (sBin dMul (sTup (sCons (sBin dMul (sTup (sCons (sC (.int 0)) (sNil))) (sC (.int 4))) (sNil))) (sC (.int 2))) (sNil))))) (sTOr (sTst (sCall m_is_tally (sCons (sVar 3) (sCons (sLst (sCons (sBin dMul (sTup (sCons (sC (.int 0)) (sNil))) (sC (.int 5))) (sCons (sBin dMul (sTup (sCons (sC (.int 0)) (sNil))) (sC (.int 5))) (sNil)))) (sNil))))) (sTOr (sTst (sCall m_is_tally (sCons (sVar 3) (sCons (sTup (sCons (sBin dMul (sLst (sCons (sC (.int 0)) (sNil))) (sC (.int 5))) (sCons (sBin dMul (sTup (sCons (sC (.int 0)) (sNil))) (sC (.int 5))) (sNil)))) (sNil))))) (sTOr (sTst (sCall m_is_tally (sCons (sVar 3) (sCons (sTup (sCons (sBin dMul (sTup (sCons (sC (.bool true)) (sNil))) (sC (.int 5))) (sCons (sBin dMul (sTup (sCons (sC (.int 0)) (sNil))) (sC (.int 5))) (sNil)))) (sNil))))) (sTOr (sTst (sCall m_is_tally (sCons (sVar 3) (sCons (sBin dMul (sTup (sCons (sBin dMul (sTup (sCons (sUn dNeg (sC (.int 1))) (sNil))) (sC (.int 5))) (sNil))) (sC (.int 2))) (sNil))))) (sTst (sCall m_is_tally (sCons (sVar 3) (sCons (sC .none) (sNil))))))))))))) (sRet (sC (.bool false))) (sDone)
def ls_6 : SemS := sPar 4 5 (sCons (sBin dAdd (sC (.int 1)) (sCallM 0 m__law_next (sCons (sVar 1) (sCons (sC (.int 4)) (sNil))))) (sCons (sC (.bool true)) (sNil)))
def ls_7 : SemS := sFor (.nm 6) (sRng1 (sCons (sC (.int 4)) (sNil))) (sSet 5 (sTup (sCons (sBin dSub (sVar 6) (sBin dMul (sVar 4) (sBin dDiv (sVar 6) (sVar 4)))) (sCons (sVar 5) (sCons (sC (.bool false)) (sNil))))))
def ls_8 : SemS := sIfS (sTOr (sTNot (sTst (sCall m_is_asking (sCons (sVar 4) (sCons (sVar 5) (sNil)))))) (sTOr (sTst (sCall m_is_asking (sCons (sVar 4) (sCons (sTup (sCons (sC (.int 0)) (sCons (sVar 5) (sCons (sC (.bool true)) (sNil))))) (sNil))))) (sTOr (sTNot (sTst (sCall m_is_asking (sCons (sVar 4) (sCons (sC (.bool false)) (sNil)))))) (sTOr (sTst (sCall m_is_asking (sCons (sVar 4) (sCons (sC (.int 0)) (sNil))))) (sTOr (sTst (sCall m_is_asking (sCons (sVar 4) (sCons (sTup (sCons (sVar 4) (sCons (sC (.bool true)) (sCons (sC (.bool false)) (sNil))))) (sNil))))) (sTOr (sTst (sCall m_is_asking (sCons (sVar 4) (sCons (sTup (sCons (sC (.int 0)) (sCons (sC (.bool true)) (sNil)))) (sNil))))) (sTOr (sTst (sCall m_is_asking (sCons (sVar 4) (sCons (sLst (sCons (sC (.int 0)) (sCons (sC (.bool true)) (sCons (sC (.bool false)) (sNil))))) (sNil))))) (sTOr (sTst (sCall m_is_asking (sCons (sVar 4) (sCons (sTup (sCons (sC (.int 0)) (sCons (sC (.bool true)) (sCons (sC .none) (sNil))))) (sNil))))) (sTOr (sTst (sCall m_is_asking (sCons (sVar 4) (sCons (sTup (sCons (sC (.bool false)) (sCons (sC (.bool true)) (sCons (sC (.bool false)) (sNil))))) (sNil))))) (sTOr (sTst (sCall m_is_asking (sCons (sVar 4) (sCons (sTup (sNil)) (sNil))))) (sTst (sCall m_is_asking (sCons (sVar 4) (sCons (sC .none) (sNil))))))))))))))) (sRet (sC (.bool false))) (sDone)
def ls_9 : SemS := sIfS (sTOr (sTNot (sTst (sCall m_is_seen_letters (sCons (sVar 4) (sCons (sBin dMul (sTup (sCons (sTup (sCons (sTup (sNil)) (sCons (sC (.bool true)) (sNil)))) (sCons (sTup (sCons (sTup (sCons (sBin dSub (sVar 4) (sC (.int 1))) (sNil))) (sCons (sC (.bool false)) (sNil)))) (sNil)))) (sC (.int 6))) (sNil)))))) (sTOr (sTst (sCall m_is_seen_letters (sCons (sVar 4) (sCons (sBin dMul (sTup (sCons (sTup (sCons (sTup (sNil)) (sCons (sC (.bool true)) (sNil)))) (sNil))) (sC (.int 13))) (sNil))))) (sTNot (sTst (sCall m_is_seen_letters (sCons (sVar 4) (sCons (sTup (sNil)) (sNil)))))))) (sRet (sC (.bool false))) (sDone)
def ls_10 : SemS := sIfS (sTOr (sTst (sCall m_is_seen_letters (sCons (sVar 4) (sCons (sTup (sCons (sTup (sCons (sTup (sCons (sVar 4) (sNil))) (sCons (sC (.bool true)) (sNil)))) (sNil))) (sNil))))) (sTOr (sTst (sCall m_is_seen_letters (sCons (sVar 4) (sCons (sTup (sCons (sTup (sCons (sTup (sCons (sC (.int 0)) (sCons (sC (.int 0)) (sNil)))) (sCons (sC (.bool true)) (sNil)))) (sNil))) (sNil))))) (sTOr (sTst (sCall m_is_seen_letters (sCons (sVar 4) (sCons (sTup (sCons (sTup (sCons (sTup (sNil)) (sCons (sC (.int 1)) (sNil)))) (sNil))) (sNil))))) (sTst (sCall m_is_seen_letters (sCons (sVar 4) (sCons (sLst (sCons (sTup (sCons (sTup (sNil)) (sCons (sC (.bool true)) (sNil)))) (sNil))) (sNil)))))))) (sRet (sC (.bool false))) (sDone)
def ls_11 : SemS := sIfS (sTOr (sTst (sCall m_is_seen_letters (sCons (sVar 4) (sCons (sTup (sCons (sLst (sCons (sTup (sNil)) (sCons (sC (.bool true)) (sNil)))) (sNil))) (sNil))))) (sTOr (sTst (sCall m_is_seen_letters (sCons (sVar 4) (sCons (sTup (sCons (sTup (sCons (sLst (sNil)) (sCons (sC (.bool true)) (sNil)))) (sNil))) (sNil))))) (sTst (sCall m_is_seen_letters (sCons (sVar 4) (sCons (sC .none) (sNil))))))) (sRet (sC (.bool false))) (sDone)
def ls_12 : SemS := sIfS (sTOr (sTNot (sTst (sCall m_is_calls (sCons (sBin dMul (sTup (sCons (sC (.int 7)) (sNil))) (sC (.int 30))) (sNil))))) (sTOr (sTst (sCall m_is_calls (sCons (sBin dMul (sTup (sCons (sC (.int 7)) (sNil))) (sC (.int 31))) (sNil)))) (sTOr (sTNot (sTst (sCall m_is_calls (sCons (sTup (sNil)) (sNil))))) (sTOr (sTst (sCall m_is_calls (sCons (sTup (sCons (sC (.int 8)) (sNil))) (sNil)))) (sTOr (sTst (sCall m_is_calls (sCons (sTup (sCons (sUn dNeg (sC (.int 1))) (sNil))) (sNil)))) (sTOr (sTst (sCall m_is_calls (sCons (sLst (sCons (sC (.int 0)) (sNil))) (sNil)))) (sTOr (sTst (sCall m_is_calls (sCons (sTup (sCons (sC (.bool true)) (sNil))) (sNil)))) (sTst (sCall m_is_calls (sCons (sC .none) (sNil))))))))))) (sRet (sC (.bool false))) (sDone)
def ls_13 : SemS := sSet 7 (sBin dMul (sTup (sCons (sVar 2) (sNil))) (sVar 2))
def ls_14 : SemS := sIfS (sTOr (sTNot (sTst (sCall m_is_kept_row (sCons (sVar 7) (sCons (sC (.int 1)) (sCons (sBin dMul (sTup (sCons (sTup (sCons (sVar 2) (sNil))) (sNil))) (sVar 2)) (sNil))))))) (sTOr (sTst (sCall m_is_kept_row (sCons (sVar 7) (sCons (sC (.int 1)) (sCons (sBin dMul (sTup (sCons (sTup (sCons (sVar 2) (sNil))) (sNil))) (sBin dAdd (sVar 2) (sC (.int 1)))) (sNil)))))) (sTOr (sTst (sCall m_is_kept_row (sCons (sVar 7) (sCons (sC (.int 2)) (sCons (sBin dMul (sTup (sCons (sTup (sCons (sC (.int 0)) (sCons (sVar 2) (sNil)))) (sNil))) (sVar 2)) (sNil)))))) (sTOr (sTst (sCall m_is_kept_row (sCons (sVar 7) (sCons (sC (.int 2)) (sCons (sBin dMul (sTup (sCons (sTup (sNil)) (sNil))) (sVar 2)) (sNil)))))) (sTOr (sTst (sCall m_is_kept_row (sCons (sVar 7) (sCons (sC (.int 2)) (sCons (sBin dMul (sTup (sCons (sLst (sCons (sVar 2) (sNil))) (sNil))) (sVar 2)) (sNil)))))) (sTOr (sTst (sCall m_is_kept_row (sCons (sVar 7) (sCons (sC (.int 2)) (sCons (sBin dMul (sTup (sCons (sTup (sCons (sVar 2) (sCons (sVar 2) (sNil)))) (sNil))) (sVar 2)) (sNil)))))) (sTOr (sTst (sCall m_is_kept_row (sCons (sVar 7) (sCons (sC (.int 2)) (sCons (sBin dMul (sLst (sCons (sTup (sCons (sVar 2) (sNil))) (sNil))) (sVar 2)) (sNil)))))) (sTst (sCall m_is_kept_row (sCons (sVar 7) (sCons (sC (.int 2)) (sCons (sC .none) (sNil))))))))))))) (sRet (sC (.bool false))) (sDone)
def ls_15 : SemS := sIfS (sTOr (sTNot (sTst (sCall m_is_look_counts (sCons (sBin dMul (sTup (sCons (sC (.int 100)) (sNil))) (sC (.int 8))) (sNil))))) (sTOr (sTst (sCall m_is_look_counts (sCons (sBin dMul (sTup (sCons (sC (.int 100)) (sNil))) (sC (.int 9))) (sNil)))) (sTOr (sTst (sCall m_is_look_counts (sCons (sTup (sCons (sC (.int 101)) (sNil))) (sNil)))) (sTOr (sTst (sCall m_is_look_counts (sCons (sTup (sNil)) (sNil)))) (sTOr (sTst (sCall m_is_look_counts (sCons (sLst (sCons (sC (.int 1)) (sNil))) (sNil)))) (sTst (sCall m_is_look_counts (sCons (sTup (sCons (sUn dNeg (sC (.int 1))) (sNil))) (sNil))))))))) (sRet (sC (.bool false))) (sDone)
def ls_16 : SemS := sIfS (sTOr (sTst (sCall m_is_look_counts (sCons (sTup (sCons (sC (.bool true)) (sNil))) (sNil)))) (sTst (sCall m_is_look_counts (sCons (sC .none) (sNil))))) (sRet (sC (.bool false))) (sDone)
def ls_17 : SemS := sSet 8 (sC .none)
def ls_18 : SemS := sFor (.nm 9) (sRng1 (sCons (sVar 2) (sNil))) (sSet 8 (sTup (sCons (sVar 9) (sCons (sVar 8) (sCons (sC .none) (sNil))))))
def ls_19 : SemS := sSet 10 (sBin dMul (sTup (sCons (sC (.int 1)) (sNil))) (sVar 2))
def ls_20 : SemS := sRet (sAnd (sCall m_is_search_tree (sCons (sVar 10) (sCons (sVar 8) (sNil)))) (sAnd (sNot (sCall m_is_search_tree (sCons (sVar 10) (sCons (sTup (sCons (sVar 2) (sCons (sVar 8) (sCons (sC .none) (sNil))))) (sNil))))) (sAnd (sNot (sCall m_is_search_tree (sCons (sVar 10) (sCons (sC .none) (sNil))))) (sAnd (sNot (sCall m_is_search_tree (sCons (sVar 10) (sCons (sTup (sCons (sBin dIxD (sVar 8) (sC (.int 0))) (sCons (sBin dIxD (sVar 8) (sC (.int 1))) (sCons (sVar 8) (sNil))))) (sNil))))) (sAnd (sNot (sCall m_is_search_tree (sCons (sVar 10) (sCons (sLst (sCons (sBin dIxD (sVar 8) (sC (.int 0))) (sCons (sBin dIxD (sVar 8) (sC (.int 1))) (sCons (sC .none) (sNil))))) (sNil))))) (sAnd (sNot (sCall m_is_search_tree (sCons (sBin dAdd (sVar 10) (sTup (sCons (sC (.int 1)) (sNil)))) (sCons (sVar 8) (sNil))))) (sNot (sCall m_is_search_tree (sCons (sVar 10) (sCons (sSlice (sVar 8) (sPn) (sPs (sC (.int 2)))) (sNil)))))))))))
def lr_20 : SemS := ls_20
def lr_19 : SemS := sSeq ls_19 lr_20
def lr_18 : SemS := sSeq ls_18 lr_19
def lr_17 : SemS := sSeq ls_17 lr_18
def lr_16 : SemS := sSeq ls_16 lr_17
def lr_15 : SemS := sSeq ls_15 lr_16
def lr_14 : SemS := sSeq ls_14 lr_15
def lr_13 : SemS := sSeq ls_13 lr_14
def lr_12 : SemS := sSeq ls_12 lr_13
def lr_11 : SemS := sSeq ls_11 lr_12
def lr_10 : SemS := sSeq ls_10 lr_11
def lr_9 : SemS := sSeq ls_9 lr_10
def lr_8 : SemS := sSeq ls_8 lr_9
def lr_7 : SemS := sSeq ls_7 lr_8
def lr_6 : SemS := sSeq ls_6 lr_7
def lr_5 : SemS := sSeq ls_5 lr_6
def lr_4 : SemS := sSeq ls_4 lr_5
def lr_3 : SemS := sSeq ls_3 lr_4
def lr_2 : SemS := sSeq ls_2 lr_3
def lr_1 : SemS := sSeq ls_1 lr_2
def lr_0 : SemS := sSeq ls_0 lr_1
def g_law : SemS := lr_0
/-! ### the draws -/
theorem lg {i : Int} (h : i.natAbs < 2 ^ 200) : i.natAbs.log2 < 400 := by
  by_cases h0 : i.natAbs = 0
  · rw [h0]; decide
  · have := (Nat.log2_lt h0).mpr h
    omega
theorem mul_i {i j : Int} (h : i.natAbs < 2 ^ 200) (h' : j.natAbs < 2 ^ 200) : dMul (.int i) (.int j) = some (.int (i * j)) := by
  have h1 := lg h
  have h2 := lg h'
  show (if i.natAbs.log2 + j.natAbs.log2 < 1000000 then _ else _) = _
  rw [if_pos (by omega)]
theorem div_i {i j : Int} (h : 0 < j) (h' : j.natAbs < 2 ^ 200) : dDiv (.int i) (.int j) = some (.int (i / j)) := if_pos ⟨h, by have := lg h'; omega⟩
def primesD : List D := [.int 1000003, .int 1000033, .int 1000037, .int 1000039, .int 1000081, .int 1000099, .int 1000117, .int 1000121, .int 1000133, .int 1000151, .int 1000159, .int 1000171, .int 1000183, .int 1000187, .int 1000193, .int 1000199]
theorem prime_at {k : Int} : ∃ p, 0 < p ∧ dIxD (.tuple primesD) (.int (k % 16)) = some (.int p) := by
  have h1 := Int.emod_nonneg k (b := 16) (by decide)
  have h2 := Int.emod_lt_of_pos k (b := 16) (by decide)
  generalize k % 16 = j at h1 h2
  have : j = 0 ∨ j = 1 ∨ j = 2 ∨ j = 3 ∨ j = 4 ∨ j = 5 ∨ j = 6 ∨ j = 7 ∨ j = 8 ∨ j = 9 ∨ j = 10 ∨ j = 11 ∨ j = 12 ∨ j = 13 ∨ j = 14 ∨ j = 15 := by omega
  rcases this with rfl | rfl | rfl | rfl | rfl | rfl | rfl | rfl | rfl | rfl | rfl | rfl | rfl | rfl | rfl | rfl <;> exact ⟨_, by decide, rfl⟩
theorem law_draw {c k b : Int} (hb : 0 < b) (hc : c.natAbs < 2 ^ 100) (hk : k.natAbs < 2 ^ 100) : ∃ r, m__law_draw [.int c, .int k, .int b] = some (.int r) ∧ 0 ≤ r ∧ r < b := by
  obtain ⟨p, hp, e⟩ := prime_at (k := k)
  unfold primesD at e
  refine ⟨(c * 48271 + k * 69621) % p % b, ?_, Int.emod_nonneg _ (by omega), Int.emod_lt_of_pos _ hb⟩
  have hs : (16 ≤ sizeLine) = True := eq_true (by decide)
  have hm : dMul (.int c) (.int 48271) = some (.int (c * 48271)) := mul_i (by omega) (by decide)
  have hm2 : dMul (.int k) (.int 69621) = some (.int (k * 69621)) := mul_i (by omega) (by decide)
  simp [m__law_draw, runF, outF, stE, g__law_draw, sSeq, sSet, sTup, sCons, sC, sNil, sRet, sBin, sBlt, sVar, clO, clA, rdO, rdA, setP, fit, dInt, hm, hm2, dAdd, dMod, e, hb, hp, hs]
theorem law_number {c k b : Int} (hb : 0 < b) (hk : 1 ≤ k ∧ k ≤ 12) : ∃ r, m__law_number [.int c, .int k, .int b] = some (.int r) ∧ 0 ≤ r ∧ r < b := by
  have : k = 1 ∨ k = 2 ∨ k = 3 ∨ k = 4 ∨ k = 5 ∨ k = 6 ∨ k = 7 ∨ k = 8 ∨ k = 9 ∨ k = 10 ∨ k = 11 ∨ k = 12 := by omega
  have lp : ∃ q : Int, 0 < q ∧ q.natAbs < 2 ^ 200 ∧ ∃ x, sFor (.nm 4) (sRng1 (sCons (sBin dMod (sBlt dInt (sCons (sVar 1) (sNil))) (sC (.int 24))) (sNil))) (sSet 3 (sBin dMul (sVar 3) (sC (.int 1009)))) [.pu (.int c), .pu (.int k), .pu (.int b), .pu (.int 1), .un, .un, .un] =
      some (.nx [.pu (.int c), .pu (.int k), .pu (.int b), .pu (.int q), x, .un, .un]) := by
    refine ⟨1009 ^ k.toNat, ?_, ?_, .pu (.int (k - 1)), ?_⟩
    · rcases this with rfl | rfl | rfl | rfl | rfl | rfl | rfl | rfl | rfl | rfl | rfl | rfl <;> decide
    · rcases this with rfl | rfl | rfl | rfl | rfl | rfl | rfl | rfl | rfl | rfl | rfl | rfl <;> decide
    · rcases this with rfl | rfl | rfl | rfl | rfl | rfl | rfl | rfl | rfl | rfl | rfl | rfl <;> kernel_rfl
  obtain ⟨q, hq, hq2, x, el⟩ := lp
  have hp : dPow (.int 10) (.int 18) = some (.int 1000000000000000000) := rfl
  have hd : dDiv (.int (c - 1000000000000000000)) (.int q) = some (.int ((c - 1000000000000000000) / q)) := div_i hq hq2
  by_cases h : 0 < (c - 1000000000000000000) / q
  · refine ⟨(c - 1000000000000000000) / q % 1009 % b, ?_, Int.emod_nonneg _ (by omega), Int.emod_lt_of_pos _ hb⟩
    simp [m__law_number, runF, outF, stE, g__law_number, sSeq, el, sSet, sCons, sC, sNil, sRet, sBin, sBlt, sVar, clO, rdO, rdA, setP, dInt, dSub, hp, hd, dGt, sIfS, sTst, dMod, hb, h]
  · have c1 := Int.emod_nonneg c (b := 1000003) (by decide)
    have c2 := Int.emod_lt_of_pos c (b := 1000003) (by decide)
    obtain ⟨r, e1, r1, r2⟩ := law_draw (c := (c % 1000003 + 977 * k) * (c % 1000003 + 31 * k + 5)) (k := k % 9 + 1) (b := 999983) (by decide) (by
      have h1 : (c % 1000003 + 977 * k).natAbs ≤ 1100000 := by omega
      have h2 : (c % 1000003 + 31 * k + 5).natAbs ≤ 1100000 := by omega
      rw [Int.natAbs_mul]
      exact Nat.lt_of_le_of_lt (Nat.mul_le_mul h1 h2) (by decide)) (by omega)
    refine ⟨r % b, ?_, Int.emod_nonneg _ (by omega), Int.emod_lt_of_pos _ hb⟩
    have m1 : dMul (.int 977) (.int k) = some (.int (977 * k)) := mul_i (by decide) (by omega)
    have m2 : dMul (.int 31) (.int k) = some (.int (31 * k)) := mul_i (by decide) (by omega)
    have m3 : dMul (.int (c % 1000003 + 977 * k)) (.int (c % 1000003 + 31 * k + 5)) = some (.int ((c % 1000003 + 977 * k) * (c % 1000003 + 31 * k + 5))) := mul_i (by omega) (by omega)
    simp [m__law_number, runF, outF, stE, g__law_number, sSeq, el, sSet, sCons, sC, sNil, sRet, sBin, sBlt, sVar, clO, clA, rdO, rdA, setP, dInt, dSub, dAdd, hp, hd, dGt, sIfS, sTst, sDone, sCall, dMod, hb, h, m1, m2, m3, e1]
theorem law_cell {is : List Int} {k : Int} (hk : 0 ≤ k) : ∃ c, m__law_cell_at [.list (is.map PyData.int), .int k] = some (.int c) := by
  by_cases h : k < is.length
  · refine ⟨is.getD k.toNat 0, ?_⟩
    have e : dIxD (.list (is.map PyData.int)) (.int k) = some (.int (is.getD k.toNat 0)) := by
      show atI (is.map PyData.int) k = _
      unfold atI ixN
      have h1 : k < (is.map PyData.int).length := by rw [List.length_map]; exact h
      have h2 : k.toNat < is.length := by omega
      simp [hk, h, h1, List.getElem?_map, List.getElem?_eq_getElem h2, List.getD_eq_getElem?_getD]
    simp [m__law_cell_at, runF, outF, stE, g__law_cell_at, sSeq, sIfS, sTst, sBin, sVar, sBlt, sCons, sNil, rdO, rdA, muO, dLen, dLt, h, sRet, e, clO]
  · refine ⟨0, ?_⟩
    simp [m__law_cell_at, runF, outF, stE, g__law_cell_at, sSeq, sIfS, sTst, sBin, sVar, sBlt, sCons, sNil, rdO, rdA, muO, dLen, dLt, h, sRet, clO, sC, sDone]
/-- what a draw finds in its list -/
def drS (is : List Int) (b : Int) : D := .list [.list (is.map PyData.int), .int 0, .int b]
theorem law_next {is : List Int} {b b' bound : Int} (hb : 0 ≤ b) (hb2 : b < 1000000) (hbd : 0 < bound) (hb' : b + 1 = b') : ∃ r, m__law_next (drS is b) [.int bound] = some (.int r, drS is b') ∧ 0 ≤ r ∧ r < bound := by
  subst hb'
  have h1 : 0 ≤ (b + 1) / 12 := Int.ediv_nonneg (by omega) (by decide)
  obtain ⟨c, e1⟩ := law_cell (is := is) (k := 0 + (b + 1) / 12) (by omega)
  have h2 := Int.emod_nonneg (b + 1) (b := 12) (by decide)
  have h3 := Int.emod_lt_of_pos (b + 1) (b := 12) (by decide)
  obtain ⟨r, e2, r1, r2⟩ := law_number (c := c + 31 * ((b + 1) / 12)) (k := (b + 1) % 12 + 1) (b := bound) hbd (by omega)
  refine ⟨r, ?_, r1, r2⟩
  have m1 : dMul (.int 31) (.int ((b + 1) / 12)) = some (.int (31 * ((b + 1) / 12))) := mul_i (by decide) (by omega)
  have d1 : dDiv (.int (b + 1)) (.int 12) = some (.int ((b + 1) / 12)) := div_i (by decide) (by decide)
  have i0 : ∀ y : D, dIxD (.list [.list (is.map PyData.int), .int 0, y]) (.int 0) = some (.list (is.map PyData.int)) := fun y => rfl
  have i1 : ∀ y : D, dIxD (.list [.list (is.map PyData.int), .int 0, y]) (.int 1) = some (.int 0) := fun y => rfl
  have i2 : ∀ y : D, dIxD (.list [.list (is.map PyData.int), .int 0, y]) (.int 2) = some y := fun y => rfl
  have x2 : ixN 3 2 = some 2 := rfl
  rw [Int.zero_add] at e1
  simp [m__law_next, runM, stE, g__law_next, drS, sSeq, sSubL, sSet, sBin, sVar, sC, sCons, sNil, sBlt, rdO, rdA, muO, clO, clA, dAdd, dMod, dInt, setP, sCall, sRet, i0, i1, i2, x2, m1, d1, e1, e2]

/-! ### the law -/
def cellsOf (r : Int) : D := .tuple [.tuple (List.replicate (1 + r).toNat (.int 0)), .tuple (List.replicate (1 + r).toNat (.int 1))]
abbrev rhoA (dr : D) (r : Int) : En := [.un, .mu true dr, .pu (.int (1 + r)), .un, .un, .un, .un, .un, .un, .un, .un]
abbrev rhoB (dr : D) (r : Int) : En := [.un, .mu true dr, .pu (.int (1 + r)), .pu (cellsOf r), .un, .un, .un, .un, .un, .un, .un]
theorem st1 {dr : D} {r : Int} (h : r = 0 ∨ r = 1 ∨ r = 2 ∨ r = 3 ∨ r = 4 ∨ r = 5) : ls_1 (rhoA dr r) = some (.nx (rhoA dr r)) ∧ ls_2 (rhoA dr r) = some (.nx (rhoA dr r)) ∧ ls_3 (rhoA dr r) = some (.nx (rhoA dr r)) ∧
    ls_4 (rhoA dr r) = some (.nx (rhoB dr r)) ∧ ls_5 (rhoB dr r) = some (.nx (rhoB dr r)) := by
  rcases h with rfl | rfl | rfl | rfl | rfl | rfl <;> exact ⟨by kernel_rfl, by kernel_rfl, by kernel_rfl, by kernel_rfl, by kernel_rfl⟩
theorem part1 {dr : D} {r : Int} (h : 0 ≤ r ∧ r < 6) : lr_1 (rhoA dr r) = lr_6 (rhoB dr r) := by
  obtain ⟨h1, h2, h3, h4, h5⟩ := st1 (dr := dr) (r := r) (by omega)
  show sSeq ls_1 lr_2 _ = _
  rw [seq_nx h1]
  show sSeq ls_2 lr_3 _ = _
  rw [seq_nx h2]
  show sSeq ls_3 lr_4 _ = _
  rw [seq_nx h3]
  show sSeq ls_4 lr_5 _ = _
  rw [seq_nx h4]
  show sSeq ls_5 lr_6 _ = _
  rw [seq_nx h5]
theorem part2 {dr : D} {r q : Int} (h : 0 ≤ r ∧ r < 6) (hq : 0 ≤ q ∧ q < 4) : outF (lr_7 [.un, .mu true dr, .pu (.int (1 + r)), .pu (cellsOf r), .pu (.int (1 + q)), .pu (.bool true), .un, .un, .un, .un, .un]) = some (.bool true) := by
  have h1 : r = 0 ∨ r = 1 ∨ r = 2 ∨ r = 3 ∨ r = 4 ∨ r = 5 := by omega
  have h2 : q = 0 ∨ q = 1 ∨ q = 2 ∨ q = 3 := by omega
  rcases h1 with rfl | rfl | rfl | rfl | rfl | rfl <;> rcases h2 with rfl | rfl | rfl | rfl <;> kernel_rfl
theorem lawT : LawT 11 g_law := fun ns hl hb => by
  obtain ⟨r, e1, r0, r6⟩ := law_next (is := ns.take 63) (b := 0) (b' := 1) (bound := 6) (by decide) (by decide) (by decide) rfl
  obtain ⟨q, e2, q0, q4⟩ := law_next (is := ns.take 63) (b := 1) (b' := 2) (bound := 4) (by decide) (by decide) (by decide) rfl
  have a0 : ls_0 (rho0 11 ns) = some (.nx [.un, .mu true (drS (ns.take 63) 1), .pu (.int (1 + r)), .un, .un, .un, .un, .un, .un, .un, .un]) := by
    show ls_0 (stE 11 [.un, .mu true (drS (ns.take 63) 0)]) = _
    simp [ls_0, stE, sSet, sBin, sC, sCallM, sCons, sNil, sVar, clO, clA, rdO, muO, setMu, setP, dAdd, e1]
  have a6 : ls_6 (rhoB (drS (ns.take 63) 1) r) =
      some (.nx [.un, .mu true (drS (ns.take 63) 2), .pu (.int (1 + r)), .pu (cellsOf r), .pu (.int (1 + q)), .pu (.bool true), .un, .un, .un, .un, .un]) := by
    simp [ls_6, sPar, sBin, sC, sCallM, sCons, sNil, sVar, clO, clA, rdO, muO, setMu, setP, dAdd, e2]
  show outF (sSeq ls_0 lr_1 (rho0 11 ns)) = _
  rw [seq_nx a0, part1 ⟨r0, r6⟩]
  show outF (sSeq ls_6 lr_7 _) = _
  rw [seq_nx a6]
  exact part2 ⟨r0, r6⟩ ⟨q0, q4⟩

/-! ### the code -/
def top (i : Nat) : Stmt := PySem.Challenge.pw_siftmarks_k75_new_shapes.main.body.getD i (.Pass ⟨0, 0, 0, 0⟩)
structure Ft (K : Frag) (mg : Str → Option Value) : Prop where
  n_all : mg "all" = none
  n_bool : mg "bool" = none
  n_enumerate : mg "enumerate" = none
  n_int : mg "int" = none
  n_isinstance : mg "isinstance" = none
  n_len : mg "len" = none
  n_list : mg "list" = none
  n_range : mg "range" = none
  n_sorted : mg "sorted" = none
  n_tuple : mg "tuple" = none
  n_zip : mg "zip" = none
  i_MOST_ASKED : ∃ t, mg "MOST_ASKED" = some (.int 4 t)
  i_MOST_CALLS : ∃ t, mg "MOST_CALLS" = some (.int 30 t)
  i_MOST_LOOKS : ∃ t, mg "MOST_LOOKS" = some (.int 8 t)
  i_MOST_THINGS : ∃ t, mg "MOST_THINGS" = some (.int 6 t)
  i_WIDTH : ∃ t, mg "WIDTH" = some (.int 5 t)
section
variable {P : Program} {w : World} {K : Frag} {mg : Str → Option Value} {base : Heap}
theorem sc_is_whole : FnScope ["thing"] ["thing"] (defScope (top 4)) := ⟨rfl, rfl, rfl, by decide +kernel, rfl, by decide +kernel, by decide +kernel⟩
theorem ok_is_whole (D0 : Df K mg "is_whole" (top 4) ["thing"]) (T : Ft K mg)  : OkD P w K mg base 1 "is_whole" ["thing"] (spF P w K 1 m_is_whole) := dfF (N := ["thing"]) D0 sc_is_whole (by decide) fun _ cdv A outer s H E hr => by
  have hN := sc_is_whole.nd
  have HU := hu100 hr
  exact px_sone (px_ret (px_and (px_isi .int (pxv 0) rfl T.n_isinstance rfl T.n_int (by decide +kernel)) (px_one (px_not (px_isi .bool (pxv 0) rfl T.n_isinstance rfl T.n_bool (by decide +kernel))))))
theorem sc_is_from : FnScope ["thing", "least", "most"] ["thing", "least", "most"] (defScope (top 5)) := ⟨rfl, rfl, rfl, by decide +kernel, rfl, by decide +kernel, by decide +kernel⟩
theorem ok_is_from (D0 : Df K mg "is_from" (top 5) ["thing", "least", "most"]) (T : Ft K mg) (C_is_whole : OkD P w K mg base 1 "is_whole" ["thing"] (spF P w K 1 m_is_whole)) : OkD P w K mg base 2 "is_from" ["thing", "least", "most"] (spF P w K 3 m_is_from) := dfF (N := ["thing", "least", "most"]) D0 sc_is_from (by decide) fun _ cdv A outer s H E hr => by
  have hN := sc_is_from.nd
  have HU := hu100 hr
  exact px_sone (px_ret (px_and (px_def C_is_whole hr (by decide) rfl rfl (px_cons (pxv 0) (px_nil)) (ln_cons ln_nil)) (px_one (px_chain od_le od_le (pxv 1) (pxv 0) (pxv 2)))))
theorem sc_is_cells : FnScope ["thing", "row", "one"] ["thing"] (defScope (top 12)) := ⟨rfl, rfl, rfl, by decide +kernel, rfl, by decide +kernel, by decide +kernel⟩
theorem ok_is_cells (D0 : Df K mg "is_cells" (top 12) ["thing"]) (T : Ft K mg) (C_is_from : OkD P w K mg base 2 "is_from" ["thing", "least", "most"] (spF P w K 3 m_is_from)) : OkD P w K mg base 3 "is_cells" ["thing"] (spF P w K 1 m_is_cells) := dfF (N := ["thing", "row", "one"]) D0 sc_is_cells (by decide) fun _ cdv A outer s H E hr => by
  have hN := sc_is_cells.nd
  have HU := hu100 hr
  exact px_scons (px_ifs (PW.pt (px_tor (px_tnot (px_tval (px_isi .tuple (pxv 0) rfl T.n_isinstance rfl T.n_tuple (by decide +kernel)))) (px_tor (px_tnot (px_tchain od_le od_le (px_int) (px_blt cd_len rfl T.n_len (by decide +kernel) (px_cons (pxv 0) (px_nil))) (px_int))) (px_tor1 (px_tnot (px_tval (px_blt (cd_all rfl) rfl T.n_all (by decide +kernel) (px_cons (px_ofO noSl_comp (px_lcO rfl hN (px_iseq (pxv 0)) (own := [("row", 1)]) (blkOk_by (by kernel_rfl)) (fun _ _ _ _ _ => px_gn hN rfl (by first | exact .inl rfl | exact .inr rfl)) (fun _ _ _ _ _ => px_cnil) (fun _ _ _ _ _ => px_isi .tuple (pxv 1) rfl T.n_isinstance rfl T.n_tuple (by decide +kernel)))) (px_nil))))))))) (px_sone (px_ret (px_bool))) (px_snil)) (px_scons (px_ifs (px_tnot (px_tchain od_le od_le (px_int) (px_blt cd_len rfl T.n_len (by decide +kernel) (px_cons (px_ix (xd_ixD HU) (pxv 0) (px_int) (fun _ _ => rfl)) (px_nil))) (px_gI rfl T.i_MOST_THINGS))) (px_sone (px_ret (px_bool))) (px_snil)) (px_sone (px_ret (px_blt (cd_all rfl) rfl T.n_all (by decide +kernel) (px_cons (px_ofO noSl_comp (px_lcO rfl hN (px_iseq (pxv 0)) (own := [("row", 1)]) (blkOk_by (by kernel_rfl)) (fun _ _ _ _ _ => px_gn hN rfl (by first | exact .inl rfl | exact .inr rfl)) (fun _ _ _ _ _ => px_cnil) (fun _ _ _ _ _ => px_and (px_cmp (od_eq HU) (px_blt cd_len rfl T.n_len (by decide +kernel) (px_cons (pxv 1) (px_nil))) (px_blt cd_len rfl T.n_len (by decide +kernel) (px_cons (px_ix (xd_ixD HU) (pxv 0) (px_int) (fun _ _ => rfl)) (px_nil))) (by first | exact nomark _ | with_unfolding_all rfl)) (px_one (px_blt (cd_all rfl) rfl T.n_all (by decide +kernel) (px_cons (px_ofO noSl_comp (px_lcO rfl hN (px_iseq (pxv 1)) (own := [("one", 2)]) (blkOk_by (by kernel_rfl)) (fun _ _ _ _ _ => px_gn hN rfl (by first | exact .inl rfl | exact .inr rfl)) (fun _ _ _ _ _ => px_cnil) (fun _ _ _ _ _ => px_def C_is_from hr (by decide) rfl rfl (px_cons (pxv 2) (px_cons (px_int) (px_cons (px_bin od_sub (px_gI rfl T.i_WIDTH) (px_int)) (px_nil)))) (ln_cons (ln_cons (ln_cons ln_nil)))))) (px_nil))))))) (px_nil))))))
theorem sc__law_draw : FnScope ["cell", "k", "bound", "primes"] ["cell", "k", "bound"] (defScope (top 33)) := ⟨rfl, rfl, rfl, by decide +kernel, rfl, by decide +kernel, by decide +kernel⟩
theorem ok__law_draw (D0 : Df K mg "_law_draw" (top 33) ["cell", "k", "bound"]) (T : Ft K mg)  : OkD P w K mg base 1 "_law_draw" ["cell", "k", "bound"] (spF P w K 3 m__law_draw) := dfF (N := ["cell", "k", "bound", "primes"]) D0 sc__law_draw (by decide) fun _ cdv A outer s H E hr => by
  have hN := sc__law_draw.nd
  have HU := hu100 hr
  exact px_scons (px_set hN rfl (by first | exact .inl rfl | exact .inr rfl) (px_tup (px_cons (px_int) (px_cons (px_int) (px_cons (px_int) (px_cons (px_int) (px_cons (px_int) (px_cons (px_int) (px_cons (px_int) (px_cons (px_int) (px_cons (px_int) (px_cons (px_int) (px_cons (px_int) (px_cons (px_int) (px_cons (px_int) (px_cons (px_int) (px_cons (px_int) (px_cons (px_int) (px_nil))))))))))))))))))) (px_sone (px_ret (px_bin od_mod (px_bin od_mod (px_ty cd_int rfl T.n_int (by decide +kernel) (px_cons (px_bin od_add (px_bin od_mul (pxv 0) (px_int)) (px_bin od_mul (pxv 1) (px_int))) (px_nil))) (px_ix (xd_ixD HU) (pxv 3) (px_bin od_mod (px_ty cd_int rfl T.n_int (by decide +kernel) (px_cons (pxv 1) (px_nil))) (px_int)) (fun _ _ => rfl))) (pxv 2))))
theorem sc__law_number : FnScope ["cell", "k", "bound", "scale", "lap", "remains", "small"] ["cell", "k", "bound"] (defScope (top 34)) := ⟨rfl, rfl, rfl, by decide +kernel, rfl, by decide +kernel, by decide +kernel⟩
theorem ok__law_number (D0 : Df K mg "_law_number" (top 34) ["cell", "k", "bound"]) (T : Ft K mg) (C__law_draw : OkD P w K mg base 1 "_law_draw" ["cell", "k", "bound"] (spF P w K 3 m__law_draw)) : OkD P w K mg base 2 "_law_number" ["cell", "k", "bound"] (spF P w K 3 m__law_number) := dfF (N := ["cell", "k", "bound", "scale", "lap", "remains", "small"]) D0 sc__law_number (by decide) fun _ cdv A outer s H E hr => by
  have hN := sc__law_number.nd
  have HU := hu100 hr
  exact px_scons (px_set hN rfl (by first | exact .inl rfl | exact .inr rfl) (px_int)) (px_scons (px_for .never rfl (px_irng1 rfl T.n_range (px_cons (px_bin od_mod (px_ty cd_int rfl T.n_int (by decide +kernel) (px_cons (pxv 1) (px_nil))) (px_int)) (px_nil))) (px_gn hN rfl (by first | exact .inl rfl | exact .inr rfl)) (px_sone (px_set hN rfl (by first | exact .inl rfl | exact .inr rfl) (px_bin od_mul (pxv 3) (px_int))))) (px_scons (px_set hN rfl (by first | exact .inl rfl | exact .inr rfl) (px_bin od_div (px_bin od_sub (pxv 0) (px_bin od_pow (px_int) (px_int))) (pxv 3))) (px_scons (px_ifs (px_tcmp od_gt (pxv 5) (px_int) (by first | exact nomark _ | with_unfolding_all rfl)) (px_sone (px_ret (px_bin od_mod (px_bin od_mod (px_ty cd_int rfl T.n_int (by decide +kernel) (px_cons (pxv 5) (px_nil))) (px_int)) (pxv 2)))) (px_snil)) (px_scons (px_set hN rfl (by first | exact .inl rfl | exact .inr rfl) (px_bin od_mod (px_ty cd_int rfl T.n_int (by decide +kernel) (px_cons (pxv 0) (px_nil))) (px_int))) (px_sone (px_ret (px_bin od_mod (px_def C__law_draw hr (by decide) rfl rfl (px_cons (px_bin od_mul (px_bin od_add (pxv 6) (px_bin od_mul (px_int) (pxv 1))) (px_bin od_add (px_bin od_add (pxv 6) (px_bin od_mul (px_int) (pxv 1))) (px_int))) (px_cons (px_bin od_add (px_bin od_mod (px_ty cd_int rfl T.n_int (by decide +kernel) (px_cons (pxv 1) (px_nil))) (px_int)) (px_int)) (px_cons (px_int) (px_nil)))) (ln_cons (ln_cons (ln_cons ln_nil)))) (pxv 2))))))))
theorem sc__law_cell_at : FnScope ["script", "k"] ["script", "k"] (defScope (top 32)) := ⟨rfl, rfl, rfl, by decide +kernel, rfl, by decide +kernel, by decide +kernel⟩
theorem ok__law_cell_at (D0 : Df K mg "_law_cell_at" (top 32) ["script", "k"]) (T : Ft K mg)  : OkD P w K mg base 1 "_law_cell_at" ["script", "k"] (spF P w K 2 m__law_cell_at) := dfF (N := ["script", "k"]) D0 sc__law_cell_at (by decide) fun _ cdv A outer s H E hr => by
  have hN := sc__law_cell_at.nd
  have HU := hu100 hr
  exact px_scons (px_ifs (px_tcmp od_lt (pxv 1) (px_blt cd_len rfl T.n_len (by decide +kernel) (px_cons (pxv 0) (px_nil))) (by first | exact nomark _ | with_unfolding_all rfl)) (px_sone (px_ret (px_ix (xd_ixD HU) (pxv 0) (pxv 1) (fun _ _ => rfl)))) (px_snil)) (px_sone (px_ret (px_int)))
theorem sc__law_next : FnScope ["draw", "bound", "at", "cell"] ["draw", "bound"] (defScope (top 35)) := ⟨rfl, rfl, rfl, by decide +kernel, rfl, by decide +kernel, by decide +kernel⟩
theorem ok__law_next (D0 : Df K mg "_law_next" (top 35) ["draw", "bound"]) (T : Ft K mg) (C__law_number : OkD P w K mg base 2 "_law_number" ["cell", "k", "bound"] (spF P w K 3 m__law_number)) (C__law_cell_at : OkD P w K mg base 1 "_law_cell_at" ["script", "k"] (spF P w K 2 m__law_cell_at)) : OkD P w K mg base 3 "_law_next" ["draw", "bound"] (spM P w K 0 2 m__law_next) := dfM (N := ["draw", "bound", "at", "cell"]) D0 sc__law_next (by decide) fun _ cdv A outer s H E hr => by
  have hN := sc__law_next.nd
  have HU := hu100 hr
  exact px_scons (px_subL rfl (by first | exact .inl rfl | exact .inr (.inl rfl) | exact .inr (.inr rfl)) (px_bin od_add (px_ix (xd_ixD HU) (pxv 0) (px_int) (fun _ _ => rfl)) (px_int)) (px_int)) (px_scons (px_set hN rfl (by first | exact .inl rfl | exact .inr rfl) (px_bin od_div (px_ix (xd_ixD HU) (pxv 0) (px_int) (fun _ _ => rfl)) (px_int))) (px_scons (px_set hN rfl (by first | exact .inl rfl | exact .inr rfl) (px_bin od_add (px_def C__law_cell_at hr (by decide) rfl rfl (px_cons (px_ix (xd_ixD HU) (pxv 0) (px_int) (fun _ _ => rfl)) (px_cons (px_bin od_add (px_ix (xd_ixD HU) (pxv 0) (px_int) (fun _ _ => rfl)) (pxv 2)) (px_nil))) (ln_cons (ln_cons ln_nil))) (px_bin od_mul (px_int) (pxv 2)))) (px_sone (px_ret (px_def C__law_number hr (by decide) rfl rfl (px_cons (pxv 3) (px_cons (px_bin od_add (px_bin od_mod (px_ty cd_int rfl T.n_int (by decide +kernel) (px_cons (px_ix (xd_ixD HU) (pxv 0) (px_int) (fun _ _ => rfl)) (px_nil))) (px_int)) (px_int)) (px_cons (pxv 1) (px_nil)))) (ln_cons (ln_cons (ln_cons ln_nil))))))))
theorem sc_check_cells : FnScope ["cells"] ["cells"] (defScope (top 13)) := ⟨rfl, rfl, rfl, by decide +kernel, rfl, by decide +kernel, by decide +kernel⟩
theorem ok_check_cells (D0 : Df K mg "check_cells" (top 13) ["cells"]) (T : Ft K mg) (C_is_cells : OkD P w K mg base 3 "is_cells" ["thing"] (spF P w K 1 m_is_cells)) : OkD P w K mg base 4 "check_cells" ["cells"] (spF P w K 1 m_check_cells) := dfF (N := ["cells"]) D0 sc_check_cells (by decide) fun _ cdv A outer s H E hr => by
  have hN := sc_check_cells.nd
  have HU := hu100 hr
  exact px_sone (px_ifs (px_tnot (px_tval (px_def C_is_cells hr (by decide) rfl rfl (px_cons (pxv 0) (px_nil)) (ln_cons ln_nil)))) (px_sone (px_never)) (px_snil))
theorem sc_is_many : FnScope ["thing", "many"] ["thing", "many"] (defScope (top 6)) := ⟨rfl, rfl, rfl, by decide +kernel, rfl, by decide +kernel, by decide +kernel⟩
theorem ok_is_many (D0 : Df K mg "is_many" (top 6) ["thing", "many"]) (T : Ft K mg)  : OkD P w K mg base 1 "is_many" ["thing", "many"] (spF P w K 2 m_is_many) := dfF (N := ["thing", "many"]) D0 sc_is_many (by decide) fun _ cdv A outer s H E hr => by
  have hN := sc_is_many.nd
  have HU := hu100 hr
  exact px_sone (px_ret (px_and (px_isi .tuple (pxv 0) rfl T.n_isinstance rfl T.n_tuple (by decide +kernel)) (px_one (px_cmp (od_eq HU) (px_blt cd_len rfl T.n_len (by decide +kernel) (px_cons (pxv 0) (px_nil))) (pxv 1) (by first | exact nomark _ | with_unfolding_all rfl)))))
theorem sc_is_tally : FnScope ["cells", "thing", "row", "one"] ["cells", "thing"] (defScope (top 14)) := ⟨rfl, rfl, rfl, by decide +kernel, rfl, by decide +kernel, by decide +kernel⟩
theorem ok_is_tally (D0 : Df K mg "is_tally" (top 14) ["cells", "thing"]) (T : Ft K mg) (C_check_cells : OkD P w K mg base 4 "check_cells" ["cells"] (spF P w K 1 m_check_cells)) (C_is_many : OkD P w K mg base 1 "is_many" ["thing", "many"] (spF P w K 2 m_is_many)) (C_is_from : OkD P w K mg base 2 "is_from" ["thing", "least", "most"] (spF P w K 3 m_is_from)) : OkD P w K mg base 5 "is_tally" ["cells", "thing"] (spF P w K 2 m_is_tally) := dfF (N := ["cells", "thing", "row", "one"]) D0 sc_is_tally (by decide) fun _ cdv A outer s H E hr => by
  have hN := sc_is_tally.nd
  have HU := hu100 hr
  exact px_scons (px_drop (px_def C_check_cells hr (by decide) rfl rfl (px_cons (pxv 0) (px_nil)) (ln_cons ln_nil))) (px_scons (px_ifs (px_tnot (px_tval (px_def C_is_many hr (by decide) rfl rfl (px_cons (pxv 1) (px_cons (px_blt cd_len rfl T.n_len (by decide +kernel) (px_cons (pxv 0) (px_nil))) (px_nil))) (ln_cons (ln_cons ln_nil))))) (px_sone (px_ret (px_bool))) (px_snil)) (px_sone (px_ret (px_blt (cd_all rfl) rfl T.n_all (by decide +kernel) (px_cons (px_ofO noSl_comp (px_lcO rfl hN (px_iseq (pxv 1)) (own := [("row", 2)]) (blkOk_by (by kernel_rfl)) (fun _ _ _ _ _ => px_gn hN rfl (by first | exact .inl rfl | exact .inr rfl)) (fun _ _ _ _ _ => px_cnil) (fun _ _ _ _ _ => px_and (px_def C_is_many hr (by decide) rfl rfl (px_cons (pxv 2) (px_cons (px_gI rfl T.i_WIDTH) (px_nil))) (ln_cons (ln_cons ln_nil))) (px_one (px_blt (cd_all rfl) rfl T.n_all (by decide +kernel) (px_cons (px_ofO noSl_comp (px_lcO rfl hN (px_iseq (pxv 2)) (own := [("one", 3)]) (blkOk_by (by kernel_rfl)) (fun _ _ _ _ _ => px_gn hN rfl (by first | exact .inl rfl | exact .inr rfl)) (fun _ _ _ _ _ => px_cnil) (fun _ _ _ _ _ => px_def C_is_from hr (by decide) rfl rfl (px_cons (pxv 3) (px_cons (px_int) (px_cons (px_int) (px_nil)))) (ln_cons (ln_cons (ln_cons ln_nil)))))) (px_nil))))))) (px_nil))))))
theorem sc_is_asking_to : FnScope ["many", "thing", "deep"] ["many", "thing", "deep"] (defScope (top 18)) := ⟨rfl, rfl, rfl, by decide +kernel, rfl, by decide +kernel, by decide +kernel⟩
theorem st_is_asking_to {k : Nat} {rec_m : List D → Option D} (D0 : Df K mg "is_asking_to" (top 18) ["many", "thing", "deep"]) (T : Ft K mg) (hk : 2 ≤ k) (C_is_many : OkD P w K mg base 1 "is_many" ["thing", "many"] (spF P w K 2 m_is_many)) (C_is_from : OkD P w K mg base 2 "is_from" ["thing", "least", "most"] (spF P w K 3 m_is_from)) (C_is_asking_to : OkD P w K mg base k "is_asking_to" ["many", "thing", "deep"] (spF P w K 3 rec_m)) : OkD P w K mg base (k + 1) "is_asking_to" ["many", "thing", "deep"] (spF P w K 3 (runF 3 (g_is_asking_to rec_m))) := dfF (N := ["many", "thing", "deep"]) D0 sc_is_asking_to (by decide) fun _ cdv A outer s H E hr => by
  have hN := sc_is_asking_to.nd
  have HU := hu100 hr
  exact px_scons (px_ifs (px_tval (px_isi .bool (pxv 1) rfl T.n_isinstance rfl T.n_bool (by decide +kernel))) (px_sone (px_ret (px_bool))) (px_snil)) (px_scons (px_ifs (PW.pt (px_tor (px_tcmp (od_eq HU) (pxv 2) (px_int) (by first | exact nomark _ | with_unfolding_all rfl)) (px_tor (px_tnot (px_tval (px_def C_is_many hr (Nat.le_trans (by decide) hk) rfl rfl (px_cons (pxv 1) (px_cons (px_int) (px_nil))) (ln_cons (ln_cons ln_nil))))) (px_tor1 (px_tnot (px_tval (px_def C_is_from hr (Nat.le_trans (by decide) hk) rfl rfl (px_cons (px_ix (xd_ixD HU) (pxv 1) (px_int) (fun _ _ => rfl)) (px_cons (px_int) (px_cons (px_bin od_sub (pxv 0) (px_int)) (px_nil)))) (ln_cons (ln_cons (ln_cons ln_nil)))))))))) (px_sone (px_ret (px_bool))) (px_snil)) (px_sone (px_ret (px_and (px_def C_is_asking_to hr (Nat.le_refl _) rfl rfl (px_cons (pxv 0) (px_cons (px_ix (xd_ixD HU) (pxv 1) (px_int) (fun _ _ => rfl)) (px_cons (px_bin od_sub (pxv 2) (px_int)) (px_nil)))) (ln_cons (ln_cons (ln_cons ln_nil)))) (px_one (px_def C_is_asking_to hr (Nat.le_refl _) rfl rfl (px_cons (pxv 0) (px_cons (px_ix (xd_ixD HU) (pxv 1) (px_int) (fun _ _ => rfl)) (px_cons (px_bin od_sub (pxv 2) (px_int)) (px_nil)))) (ln_cons (ln_cons (ln_cons ln_nil)))))))))
theorem ok_is_asking_to (D0 : Df K mg "is_asking_to" (top 18) ["many", "thing", "deep"]) (T : Ft K mg) (C_is_many : OkD P w K mg base 1 "is_many" ["thing", "many"] (spF P w K 2 m_is_many)) (C_is_from : OkD P w K mg base 2 "is_from" ["thing", "least", "most"] (spF P w K 3 m_is_from)) : ∀ n : Nat, OkD P w K mg base (2 + 1 + n) "is_asking_to" ["many", "thing", "deep"] (spF P w K 3 (m_is_asking_to n))
  | 0 => (dfZ D0 sc_is_asking_to (by decide)).mono (by decide)
  | n + 1 => st_is_asking_to D0 T (Nat.le_trans (by decide) (Nat.le_add_right (2 + 1) n)) C_is_many C_is_from (ok_is_asking_to D0 T C_is_many C_is_from n)
theorem sc_is_asking : FnScope ["many", "thing"] ["many", "thing"] (defScope (top 17)) := ⟨rfl, rfl, rfl, by decide +kernel, rfl, by decide +kernel, by decide +kernel⟩
theorem ok_is_asking (D0 : Df K mg "is_asking" (top 17) ["many", "thing"]) (T : Ft K mg) (C_is_asking_to : OkD P w K mg base 17 "is_asking_to" ["many", "thing", "deep"] (spF P w K 3 (m_is_asking_to 14))) (C_is_from : OkD P w K mg base 2 "is_from" ["thing", "least", "most"] (spF P w K 3 m_is_from)) : OkD P w K mg base 18 "is_asking" ["many", "thing"] (spF P w K 2 m_is_asking) := dfF (N := ["many", "thing"]) D0 sc_is_asking (by decide) fun _ cdv A outer s H E hr => by
  have hN := sc_is_asking.nd
  have HU := hu100 hr
  exact px_scons (px_ifs (px_tnot (px_tval (px_def C_is_from hr (by decide) rfl rfl (px_cons (pxv 0) (px_cons (px_int) (px_cons (px_int) (px_nil)))) (ln_cons (ln_cons (ln_cons ln_nil)))))) (px_sone (px_never)) (px_snil)) (px_sone (px_ret (px_def C_is_asking_to hr (by decide) rfl rfl (px_cons (pxv 0) (px_cons (pxv 1) (px_cons (px_gI rfl T.i_MOST_ASKED) (px_nil)))) (ln_cons (ln_cons (ln_cons ln_nil))))))
theorem sc_ascends : FnScope ["things", "one", "other"] ["things"] (defScope (top 7)) := ⟨rfl, rfl, rfl, by decide +kernel, rfl, by decide +kernel, by decide +kernel⟩
theorem ok_ascends (D0 : Df K mg "ascends" (top 7) ["things"]) (T : Ft K mg)  : OkD P w K mg base 1 "ascends" ["things"] (spF P w K 1 m_ascends) := dfF (N := ["things", "one", "other"]) D0 sc_ascends (by decide) fun _ cdv A outer s H E hr => by
  have hN := sc_ascends.nd
  have HU := hu100 hr
  exact px_sone (px_ret (px_blt (cd_all rfl) rfl T.n_all (by decide +kernel) (px_cons (px_ofO noSl_comp (px_lcO rfl hN (px_iz2 rfl T.n_zip (px_cons (pxv 0) (px_cons (px_slice (pxv 0) (px_ps (px_int)) (px_pn)) (px_nil)))) (own := [("one", 1), ("other", 2)]) (blkOk_by (by kernel_rfl)) (fun _ _ _ _ _ => px_gt rfl (px_gsc (px_gn hN rfl (by first | exact .inl rfl | exact .inr rfl)) (px_gsc (px_gn hN rfl (by first | exact .inl rfl | exact .inr rfl)) px_gsn)) rfl) (fun _ _ _ _ _ => px_cnil) (fun _ _ _ _ _ => px_cmp od_lt (pxv 1) (pxv 2) (by first | exact nomark _ | with_unfolding_all rfl)))) (px_nil))))
theorem sc_is_lot : FnScope ["thing", "many", "one"] ["thing", "many"] (defScope (top 8)) := ⟨rfl, rfl, rfl, by decide +kernel, rfl, by decide +kernel, by decide +kernel⟩
theorem ok_is_lot (D0 : Df K mg "is_lot" (top 8) ["thing", "many"]) (T : Ft K mg) (C_ascends : OkD P w K mg base 1 "ascends" ["things"] (spF P w K 1 m_ascends)) (C_is_from : OkD P w K mg base 2 "is_from" ["thing", "least", "most"] (spF P w K 3 m_is_from)) : OkD P w K mg base 3 "is_lot" ["thing", "many"] (spF P w K 2 m_is_lot) := dfF (N := ["thing", "many", "one"]) D0 sc_is_lot (by decide) fun _ cdv A outer s H E hr => by
  have hN := sc_is_lot.nd
  have HU := hu100 hr
  exact px_sone (px_ret (px_and (px_isi .tuple (pxv 0) rfl T.n_isinstance rfl T.n_tuple (by decide +kernel)) (px_and (px_blt (cd_all rfl) rfl T.n_all (by decide +kernel) (px_cons (px_ofO noSl_comp (px_lcO rfl hN (px_iseq (pxv 0)) (own := [("one", 2)]) (blkOk_by (by kernel_rfl)) (fun _ _ _ _ _ => px_gn hN rfl (by first | exact .inl rfl | exact .inr rfl)) (fun _ _ _ _ _ => px_cnil) (fun _ _ _ _ _ => px_def C_is_from hr (by decide) rfl rfl (px_cons (pxv 2) (px_cons (px_int) (px_cons (px_bin od_sub (pxv 1) (px_int)) (px_nil)))) (ln_cons (ln_cons (ln_cons ln_nil)))))) (px_nil))) (px_one (px_def C_ascends hr (by decide) rfl rfl (px_cons (pxv 0) (px_nil)) (ln_cons ln_nil))))))
theorem sc_is_seen_letters : FnScope ["many", "thing", "one"] ["many", "thing"] (defScope (top 19)) := ⟨rfl, rfl, rfl, by decide +kernel, rfl, by decide +kernel, by decide +kernel⟩
theorem ok_is_seen_letters (D0 : Df K mg "is_seen_letters" (top 19) ["many", "thing"]) (T : Ft K mg) (C_is_from : OkD P w K mg base 2 "is_from" ["thing", "least", "most"] (spF P w K 3 m_is_from)) (C_is_lot : OkD P w K mg base 3 "is_lot" ["thing", "many"] (spF P w K 2 m_is_lot)) (C_is_many : OkD P w K mg base 1 "is_many" ["thing", "many"] (spF P w K 2 m_is_many)) : OkD P w K mg base 4 "is_seen_letters" ["many", "thing"] (spF P w K 2 m_is_seen_letters) := dfF (N := ["many", "thing", "one"]) D0 sc_is_seen_letters (by decide) fun _ cdv A outer s H E hr => by
  have hN := sc_is_seen_letters.nd
  have HU := hu100 hr
  exact px_scons (px_ifs (px_tnot (px_tval (px_def C_is_from hr (by decide) rfl rfl (px_cons (pxv 0) (px_cons (px_int) (px_cons (px_int) (px_nil)))) (ln_cons (ln_cons (ln_cons ln_nil)))))) (px_sone (px_never)) (px_snil)) (px_scons (px_ifs (PW.pt (px_tor (px_tnot (px_tval (px_isi .tuple (pxv 1) rfl T.n_isinstance rfl T.n_tuple (by decide +kernel)))) (px_tor (px_tcmp od_gt (px_blt cd_len rfl T.n_len (by decide +kernel) (px_cons (pxv 1) (px_nil))) (px_int) (by first | exact nomark _ | with_unfolding_all rfl)) (px_tor1 (px_tnot (px_tval (px_blt (cd_all rfl) rfl T.n_all (by decide +kernel) (px_cons (px_ofO noSl_comp (px_lcO rfl hN (px_iseq (pxv 1)) (own := [("one", 2)]) (blkOk_by (by kernel_rfl)) (fun _ _ _ _ _ => px_gn hN rfl (by first | exact .inl rfl | exact .inr rfl)) (fun _ _ _ _ _ => px_cnil) (fun _ _ _ _ _ => px_def C_is_many hr (by decide) rfl rfl (px_cons (pxv 2) (px_cons (px_int) (px_nil))) (ln_cons (ln_cons ln_nil))))) (px_nil))))))))) (px_sone (px_ret (px_bool))) (px_snil)) (px_sone (px_ret (px_blt (cd_all rfl) rfl T.n_all (by decide +kernel) (px_cons (px_ofO noSl_comp (px_lcO rfl hN (px_iseq (pxv 1)) (own := [("one", 2)]) (blkOk_by (by kernel_rfl)) (fun _ _ _ _ _ => px_gn hN rfl (by first | exact .inl rfl | exact .inr rfl)) (fun _ _ _ _ _ => px_cnil) (fun _ _ _ _ _ => px_and (px_def C_is_lot hr (by decide) rfl rfl (px_cons (px_ix (xd_ixD HU) (pxv 2) (px_int) (fun _ _ => rfl)) (px_cons (pxv 0) (px_nil))) (ln_cons (ln_cons ln_nil))) (px_one (px_isi .bool (px_ix (xd_ixD HU) (pxv 2) (px_int) (fun _ _ => rfl)) rfl T.n_isinstance rfl T.n_bool (by decide +kernel)))))) (px_nil))))))
theorem sc_is_calls : FnScope ["thing", "one"] ["thing"] (defScope (top 28)) := ⟨rfl, rfl, rfl, by decide +kernel, rfl, by decide +kernel, by decide +kernel⟩
theorem ok_is_calls (D0 : Df K mg "is_calls" (top 28) ["thing"]) (T : Ft K mg) (C_is_from : OkD P w K mg base 2 "is_from" ["thing", "least", "most"] (spF P w K 3 m_is_from)) : OkD P w K mg base 3 "is_calls" ["thing"] (spF P w K 1 m_is_calls) := dfF (N := ["thing", "one"]) D0 sc_is_calls (by decide) fun _ cdv A outer s H E hr => by
  have hN := sc_is_calls.nd
  have HU := hu100 hr
  exact px_sone (px_ret (px_and (px_isi .tuple (pxv 0) rfl T.n_isinstance rfl T.n_tuple (by decide +kernel)) (px_and (px_cmp od_le (px_blt cd_len rfl T.n_len (by decide +kernel) (px_cons (pxv 0) (px_nil))) (px_gI rfl T.i_MOST_CALLS) (by first | exact nomark _ | with_unfolding_all rfl)) (px_one (px_blt (cd_all rfl) rfl T.n_all (by decide +kernel) (px_cons (px_ofO noSl_comp (px_lcO rfl hN (px_iseq (pxv 0)) (own := [("one", 1)]) (blkOk_by (by kernel_rfl)) (fun _ _ _ _ _ => px_gn hN rfl (by first | exact .inl rfl | exact .inr rfl)) (fun _ _ _ _ _ => px_cnil) (fun _ _ _ _ _ => px_def C_is_from hr (by decide) rfl rfl (px_cons (pxv 1) (px_cons (px_int) (px_cons (px_int) (px_nil)))) (ln_cons (ln_cons (ln_cons ln_nil)))))) (px_nil)))))))
theorem sc_check_calls : FnScope ["calls", "room"] ["calls", "room"] (defScope (top 29)) := ⟨rfl, rfl, rfl, by decide +kernel, rfl, by decide +kernel, by decide +kernel⟩
theorem ok_check_calls (D0 : Df K mg "check_calls" (top 29) ["calls", "room"]) (T : Ft K mg) (C_is_calls : OkD P w K mg base 3 "is_calls" ["thing"] (spF P w K 1 m_is_calls)) (C_is_from : OkD P w K mg base 2 "is_from" ["thing", "least", "most"] (spF P w K 3 m_is_from)) : OkD P w K mg base 4 "check_calls" ["calls", "room"] (spF P w K 2 m_check_calls) := dfF (N := ["calls", "room"]) D0 sc_check_calls (by decide) fun _ cdv A outer s H E hr => by
  have hN := sc_check_calls.nd
  have HU := hu100 hr
  exact px_scons (px_ifs (px_tnot (px_tval (px_def C_is_calls hr (by decide) rfl rfl (px_cons (pxv 0) (px_nil)) (ln_cons ln_nil)))) (px_sone (px_never)) (px_snil)) (px_sone (px_ifs (px_tnot (px_tval (px_def C_is_from hr (by decide) rfl rfl (px_cons (pxv 1) (px_cons (px_int) (px_cons (px_int) (px_nil)))) (ln_cons (ln_cons (ln_cons ln_nil)))))) (px_sone (px_never)) (px_snil)))
theorem sc_is_kept_row : FnScope ["calls", "room", "thing", "lot", "one", "rows", "at", "called"] ["calls", "room", "thing"] (defScope (top 30)) := ⟨rfl, rfl, rfl, by decide +kernel, rfl, by decide +kernel, by decide +kernel⟩
theorem ok_is_kept_row (D0 : Df K mg "is_kept_row" (top 30) ["calls", "room", "thing"]) (T : Ft K mg) (C_check_calls : OkD P w K mg base 4 "check_calls" ["calls", "room"] (spF P w K 2 m_check_calls)) (C_is_from : OkD P w K mg base 2 "is_from" ["thing", "least", "most"] (spF P w K 3 m_is_from)) : OkD P w K mg base 5 "is_kept_row" ["calls", "room", "thing"] (spF P w K 3 m_is_kept_row) := dfF (N := ["calls", "room", "thing", "lot", "one", "rows", "at", "called"]) D0 sc_is_kept_row (by decide) fun _ cdv A outer s H E hr => by
  have hN := sc_is_kept_row.nd
  have HU := hu100 hr
  exact px_scons (px_drop (px_def C_check_calls hr (by decide) rfl rfl (px_cons (pxv 0) (px_cons (pxv 1) (px_nil))) (ln_cons (ln_cons ln_nil)))) (px_scons (px_ifs (PW.pt (px_tor (px_tnot (px_tval (px_isi .tuple (pxv 2) rfl T.n_isinstance rfl T.n_tuple (by decide +kernel)))) (px_tor1 (px_tcmp (od_ne HU) (px_blt cd_len rfl T.n_len (by decide +kernel) (px_cons (pxv 2) (px_nil))) (px_blt cd_len rfl T.n_len (by decide +kernel) (px_cons (pxv 0) (px_nil))) (by first | exact nomark _ | with_unfolding_all rfl))))) (px_sone (px_ret (px_bool))) (px_snil)) (px_scons (px_ifs (px_tnot (px_tval (px_blt (cd_all rfl) rfl T.n_all (by decide +kernel) (px_cons (px_ofO noSl_comp (px_lcO rfl hN (px_iseq (pxv 2)) (own := [("lot", 3)]) (blkOk_by (by kernel_rfl)) (fun _ _ _ _ _ => px_gn hN rfl (by first | exact .inl rfl | exact .inr rfl)) (fun _ _ _ _ _ => px_cnil) (fun _ _ _ _ _ => px_and (px_isi .tuple (pxv 3) rfl T.n_isinstance rfl T.n_tuple (by decide +kernel)) (px_and (px_cmp od_le (px_blt cd_len rfl T.n_len (by decide +kernel) (px_cons (pxv 3) (px_nil))) (pxv 1) (by first | exact nomark _ | with_unfolding_all rfl)) (px_one (px_blt (cd_all rfl) rfl T.n_all (by decide +kernel) (px_cons (px_ofO noSl_comp (px_lcO rfl hN (px_iseq (pxv 3)) (own := [("one", 4)]) (blkOk_by (by kernel_rfl)) (fun _ _ _ _ _ => px_gn hN rfl (by first | exact .inl rfl | exact .inr rfl)) (fun _ _ _ _ _ => px_cnil) (fun _ _ _ _ _ => px_def C_is_from hr (by decide) rfl rfl (px_cons (pxv 4) (px_cons (px_int) (px_cons (px_int) (px_nil)))) (ln_cons (ln_cons (ln_cons ln_nil)))))) (px_nil)))))))) (px_nil))))) (px_sone (px_ret (px_bool))) (px_snil)) (px_scons (px_ifs (px_tnot (px_tval (px_blt (cd_all rfl) rfl T.n_all (by decide +kernel) (px_cons (px_ofO noSl_comp (px_lcO rfl hN (px_iseq (pxv 2)) (own := [("lot", 3)]) (blkOk_by (by kernel_rfl)) (fun _ _ _ _ _ => px_gn hN rfl (by first | exact .inl rfl | exact .inr rfl)) (fun _ _ _ _ _ => px_cnil) (fun _ _ _ _ _ => px_cmp (od_eq HU) (px_ofO noSl_blt (px_tyO (co_listD rfl) rfl T.n_list (by decide +kernel) (px_cons (pxv 3) (px_nil)))) (px_ofO noSl_blt (px_bltO (co_sortedD rfl HU) rfl T.n_sorted (by decide +kernel) (px_cons (px_ofO noSl_dcomp (px_dcO rfl hN (px_iseq (pxv 3)) (own := [("one", 4)]) (blkOk_by (by kernel_rfl)) (fun _ _ _ _ _ => px_gn hN rfl (by first | exact .inl rfl | exact .inr rfl)) (fun _ _ _ _ _ => px_cnil) (fun _ _ _ _ _ => pxv 4) (fun _ _ _ _ _ => px_bool))) (px_nil)))) (by first | exact nomark _ | with_unfolding_all rfl)))) (px_nil))))) (px_sone (px_ret (px_bool))) (px_snil)) (px_scons (px_set hN rfl (by first | exact .inl rfl | exact .inr rfl) (px_tup (px_cons (px_tup (px_nil)) (px_star (pxv 2) (px_nil))))) (px_sone (px_ret (px_blt (cd_all rfl) rfl T.n_all (by decide +kernel) (px_cons (px_ofO noSl_comp (px_lcO rfl hN (px_iez rfl T.n_enumerate rfl T.n_zip (px_cons (pxv 0) (px_cons (pxv 2) (px_nil)))) (own := [("at", 6), ("called", 7), ("lot", 3)]) (blkOk_by (by kernel_rfl)) (fun _ _ _ _ _ => px_gt rfl (px_gsc (px_gn hN rfl (by first | exact .inl rfl | exact .inr rfl)) (px_gsc (px_gt rfl (px_gsc (px_gn hN rfl (by first | exact .inl rfl | exact .inr rfl)) (px_gsc (px_gn hN rfl (by first | exact .inl rfl | exact .inr rfl)) px_gsn)) rfl) px_gsn)) rfl) (fun _ _ _ _ _ => px_cnil) (fun _ _ _ _ _ => px_and (px_cmp (od_inD HU) (pxv 7) (pxv 3) (by first | exact nomark _ | with_unfolding_all rfl)) (px_one (px_blt (cd_all rfl) rfl T.n_all (by decide +kernel) (px_cons (px_ofO noSl_comp (px_lcO rfl hN (px_iseq (pxv 3)) (own := [("one", 4)]) (blkOk_by (by kernel_rfl)) (fun _ _ _ _ _ => px_gn hN rfl (by first | exact .inl rfl | exact .inr rfl)) (fun _ _ _ _ _ => px_cnil) (fun _ _ _ _ _ => px_or (px_cmp (od_eq HU) (pxv 4) (pxv 7) (by first | exact nomark _ | with_unfolding_all rfl)) (px_one (px_cmp (od_inD HU) (pxv 4) (px_ix (xd_ixD HU) (pxv 5) (pxv 6) (fun _ _ => rfl)) (by first | exact nomark _ | with_unfolding_all rfl)))))) (px_nil))))))) (px_nil)))))))))
theorem sc_is_look_counts : FnScope ["thing", "one"] ["thing"] (defScope (top 22)) := ⟨rfl, rfl, rfl, by decide +kernel, rfl, by decide +kernel, by decide +kernel⟩
theorem ok_is_look_counts (D0 : Df K mg "is_look_counts" (top 22) ["thing"]) (T : Ft K mg) (C_is_from : OkD P w K mg base 2 "is_from" ["thing", "least", "most"] (spF P w K 3 m_is_from)) : OkD P w K mg base 3 "is_look_counts" ["thing"] (spF P w K 1 m_is_look_counts) := dfF (N := ["thing", "one"]) D0 sc_is_look_counts (by decide) fun _ cdv A outer s H E hr => by
  have hN := sc_is_look_counts.nd
  have HU := hu100 hr
  exact px_sone (px_ret (px_and (px_isi .tuple (pxv 0) rfl T.n_isinstance rfl T.n_tuple (by decide +kernel)) (px_and (px_chain od_le od_le (px_int) (px_blt cd_len rfl T.n_len (by decide +kernel) (px_cons (pxv 0) (px_nil))) (px_gI rfl T.i_MOST_LOOKS)) (px_one (px_blt (cd_all rfl) rfl T.n_all (by decide +kernel) (px_cons (px_ofO noSl_comp (px_lcO rfl hN (px_iseq (pxv 0)) (own := [("one", 1)]) (blkOk_by (by kernel_rfl)) (fun _ _ _ _ _ => px_gn hN rfl (by first | exact .inl rfl | exact .inr rfl)) (fun _ _ _ _ _ => px_cnil) (fun _ _ _ _ _ => px_def C_is_from hr (by decide) rfl rfl (px_cons (pxv 1) (px_cons (px_int) (px_cons (px_int) (px_nil)))) (ln_cons (ln_cons (ln_cons ln_nil)))))) (px_nil)))))))
theorem sc_check_look_counts : FnScope ["looks"] ["looks"] (defScope (top 23)) := ⟨rfl, rfl, rfl, by decide +kernel, rfl, by decide +kernel, by decide +kernel⟩
theorem ok_check_look_counts (D0 : Df K mg "check_look_counts" (top 23) ["looks"]) (T : Ft K mg) (C_is_look_counts : OkD P w K mg base 3 "is_look_counts" ["thing"] (spF P w K 1 m_is_look_counts)) : OkD P w K mg base 4 "check_look_counts" ["looks"] (spF P w K 1 m_check_look_counts) := dfF (N := ["looks"]) D0 sc_check_look_counts (by decide) fun _ cdv A outer s H E hr => by
  have hN := sc_check_look_counts.nd
  have HU := hu100 hr
  exact px_sone (px_ifs (px_tnot (px_tval (px_def C_is_look_counts hr (by decide) rfl rfl (px_cons (pxv 0) (px_nil)) (ln_cons ln_nil)))) (px_sone (px_never)) (px_snil))
theorem sc_is_search_in : FnScope ["thing", "begin", "end"] ["thing", "begin", "end"] (defScope (top 25)) := ⟨rfl, rfl, rfl, by decide +kernel, rfl, by decide +kernel, by decide +kernel⟩
theorem st_is_search_in {k : Nat} {rec_m : List D → Option D} (D0 : Df K mg "is_search_in" (top 25) ["thing", "begin", "end"]) (T : Ft K mg) (hk : 2 ≤ k) (C_is_many : OkD P w K mg base 1 "is_many" ["thing", "many"] (spF P w K 2 m_is_many)) (C_is_from : OkD P w K mg base 2 "is_from" ["thing", "least", "most"] (spF P w K 3 m_is_from)) (C_is_search_in : OkD P w K mg base k "is_search_in" ["thing", "begin", "end"] (spF P w K 3 rec_m)) : OkD P w K mg base (k + 1) "is_search_in" ["thing", "begin", "end"] (spF P w K 3 (runF 3 (g_is_search_in rec_m))) := dfF (N := ["thing", "begin", "end"]) D0 sc_is_search_in (by decide) fun _ cdv A outer s H E hr => by
  have hN := sc_is_search_in.nd
  have HU := hu100 hr
  exact px_scons (px_ifs (px_tcmp (od_eq HU) (pxv 1) (pxv 2) (by first | exact nomark _ | with_unfolding_all rfl)) (px_sone (px_ret (px_isN (pxv 0)))) (px_snil)) (px_scons (px_ifs (PW.pt (px_tor (px_tnot (px_tval (px_def C_is_many hr (Nat.le_trans (by decide) hk) rfl rfl (px_cons (pxv 0) (px_cons (px_int) (px_nil))) (ln_cons (ln_cons ln_nil))))) (px_tor1 (px_tnot (px_tval (px_def C_is_from hr (Nat.le_trans (by decide) hk) rfl rfl (px_cons (px_ix (xd_ixD HU) (pxv 0) (px_int) (fun _ _ => rfl)) (px_cons (pxv 1) (px_cons (px_bin od_sub (pxv 2) (px_int)) (px_nil)))) (ln_cons (ln_cons (ln_cons ln_nil))))))))) (px_sone (px_ret (px_bool))) (px_snil)) (px_sone (px_ret (px_and (px_def C_is_search_in hr (Nat.le_refl _) rfl rfl (px_cons (px_ix (xd_ixD HU) (pxv 0) (px_int) (fun _ _ => rfl)) (px_cons (pxv 1) (px_cons (px_ix (xd_ixD HU) (pxv 0) (px_int) (fun _ _ => rfl)) (px_nil)))) (ln_cons (ln_cons (ln_cons ln_nil)))) (px_one (px_def C_is_search_in hr (Nat.le_refl _) rfl rfl (px_cons (px_ix (xd_ixD HU) (pxv 0) (px_int) (fun _ _ => rfl)) (px_cons (px_bin od_add (px_ix (xd_ixD HU) (pxv 0) (px_int) (fun _ _ => rfl)) (px_int)) (px_cons (pxv 2) (px_nil)))) (ln_cons (ln_cons (ln_cons ln_nil)))))))))
theorem ok_is_search_in (D0 : Df K mg "is_search_in" (top 25) ["thing", "begin", "end"]) (T : Ft K mg) (C_is_many : OkD P w K mg base 1 "is_many" ["thing", "many"] (spF P w K 2 m_is_many)) (C_is_from : OkD P w K mg base 2 "is_from" ["thing", "least", "most"] (spF P w K 3 m_is_from)) : ∀ n : Nat, OkD P w K mg base (2 + 1 + n) "is_search_in" ["thing", "begin", "end"] (spF P w K 3 (m_is_search_in n))
  | 0 => (dfZ D0 sc_is_search_in (by decide)).mono (by decide)
  | n + 1 => st_is_search_in D0 T (Nat.le_trans (by decide) (Nat.le_add_right (2 + 1) n)) C_is_many C_is_from (ok_is_search_in D0 T C_is_many C_is_from n)
theorem sc_is_search_tree : FnScope ["looks", "thing"] ["looks", "thing"] (defScope (top 24)) := ⟨rfl, rfl, rfl, by decide +kernel, rfl, by decide +kernel, by decide +kernel⟩
theorem ok_is_search_tree (D0 : Df K mg "is_search_tree" (top 24) ["looks", "thing"]) (T : Ft K mg) (C_check_look_counts : OkD P w K mg base 4 "check_look_counts" ["looks"] (spF P w K 1 m_check_look_counts)) (C_is_search_in : OkD P w K mg base 17 "is_search_in" ["thing", "begin", "end"] (spF P w K 3 (m_is_search_in 14))) : OkD P w K mg base 18 "is_search_tree" ["looks", "thing"] (spF P w K 2 m_is_search_tree) := dfF (N := ["looks", "thing"]) D0 sc_is_search_tree (by decide) fun _ cdv A outer s H E hr => by
  have hN := sc_is_search_tree.nd
  have HU := hu100 hr
  exact px_scons (px_drop (px_def C_check_look_counts hr (by decide) rfl rfl (px_cons (pxv 0) (px_nil)) (ln_cons ln_nil))) (px_sone (px_ret (px_def C_is_search_in hr (by decide) rfl rfl (px_cons (pxv 1) (px_cons (px_int) (px_cons (px_blt cd_len rfl T.n_len (by decide +kernel) (px_cons (pxv 0) (px_nil))) (px_nil)))) (ln_cons (ln_cons (ln_cons ln_nil))))))
theorem sc_law : FnScope ["script", "draw", "size", "cells", "many", "deep", "turn", "calls", "line", "word", "looks"] ["script"] (defScope (top 36)) := ⟨rfl, rfl, rfl, by decide +kernel, rfl, by decide +kernel, by decide +kernel⟩
theorem ok_law {f : Addr} {fd : FuncData} (F : Fun K "law" "law" (top 36) f fd) (T : Ft K mg) (C_is_cells : OkD P w K mg base 3 "is_cells" ["thing"] (spF P w K 1 m_is_cells)) (C__law_next : OkD P w K mg base 3 "_law_next" ["draw", "bound"] (spM P w K 0 2 m__law_next)) (C_is_tally : OkD P w K mg base 5 "is_tally" ["cells", "thing"] (spF P w K 2 m_is_tally)) (C_is_asking : OkD P w K mg base 18 "is_asking" ["many", "thing"] (spF P w K 2 m_is_asking)) (C_is_seen_letters : OkD P w K mg base 4 "is_seen_letters" ["many", "thing"] (spF P w K 2 m_is_seen_letters)) (C_is_calls : OkD P w K mg base 3 "is_calls" ["thing"] (spF P w K 1 m_is_calls)) (C_is_kept_row : OkD P w K mg base 5 "is_kept_row" ["calls", "room", "thing"] (spF P w K 3 m_is_kept_row)) (C_is_look_counts : OkD P w K mg base 3 "is_look_counts" ["thing"] (spF P w K 1 m_is_look_counts)) (C_is_search_tree : OkD P w K mg base 18 "is_search_tree" ["looks", "thing"] (spF P w K 2 m_is_search_tree)) (hT : LawT 11 g_law) : FnOk P w K mg base CX0 19 f fd ["script"] (spLaw K) := lawOk rfl F sc_law (k := 18) (fun cdv A outer s H E hr => by
  have hN := sc_law.nd
  have HU := hu100 hr
  exact pss_cons (px_draw hN rfl rfl (.inl rfl) (by first | exact .inl rfl | exact .inr rfl)) (px_scons (px_set hN rfl (by first | exact .inl rfl | exact .inr rfl) (px_bin od_add (px_int) (px_defM C__law_next hr (by decide) rfl rfl (px_cons (pxv 1) (px_cons (px_int) (px_nil))) (ln_cons (ln_cons ln_nil))))) (px_scons (px_ifs (PW.pt (px_tor (px_tnot (px_tval (px_def C_is_cells hr (by decide) rfl rfl (px_cons (px_bin od_mul (px_tup (px_cons (px_bin od_mul (px_tup (px_cons (px_int) (px_nil))) (pxv 2)) (px_nil))) (px_int)) (px_nil)) (ln_cons ln_nil)))) (px_tor (px_tval (px_def C_is_cells hr (by decide) rfl rfl (px_cons (px_bin od_mul (px_tup (px_cons (px_bin od_mul (px_tup (px_cons (px_int) (px_nil))) (pxv 2)) (px_nil))) (px_int)) (px_nil)) (ln_cons ln_nil))) (px_tor (px_tval (px_def C_is_cells hr (by decide) rfl rfl (px_cons (px_tup (px_cons (px_bin od_mul (px_tup (px_cons (px_int) (px_nil))) (pxv 2)) (px_nil))) (px_nil)) (ln_cons ln_nil))) (px_tor (px_tval (px_def C_is_cells hr (by decide) rfl rfl (px_cons (px_tup (px_cons (px_bin od_mul (px_tup (px_cons (px_int) (px_nil))) (px_int)) (px_nil))) (px_nil)) (ln_cons ln_nil))) (px_tor1 (px_tval (px_def C_is_cells hr (by decide) rfl rfl (px_cons (px_tup (px_cons (px_bin od_mul (px_tup (px_cons (px_int) (px_nil))) (pxv 2)) (px_cons (px_bin od_mul (px_tup (px_cons (px_int) (px_nil))) (px_bin od_add (pxv 2) (px_int))) (px_nil)))) (px_nil)) (ln_cons ln_nil))))))))) (px_sone (px_ret (px_bool))) (px_snil)) (px_scons (px_ifs (PW.pt (px_tor (px_tval (px_def C_is_cells hr (by decide) rfl rfl (px_cons (px_tup (px_cons (px_bin od_mul (px_ofO noSl_lst (px_lstO (px_cons (px_int) (px_nil)))) (pxv 2)) (px_nil))) (px_nil)) (ln_cons ln_nil))) (px_tor (px_tval (px_def C_is_cells hr (by decide) rfl rfl (px_cons (px_ofO noSl_lst (px_lstO (px_cons (px_bin od_mul (px_tup (px_cons (px_int) (px_nil))) (pxv 2)) (px_nil)))) (px_nil)) (ln_cons ln_nil))) (px_tor (px_tval (px_def C_is_cells hr (by decide) rfl rfl (px_cons (px_tup (px_nil)) (px_nil)) (ln_cons ln_nil))) (px_tor (px_tval (px_def C_is_cells hr (by decide) rfl rfl (px_cons (px_tup (px_cons (px_tup (px_nil)) (px_nil))) (px_nil)) (ln_cons ln_nil))) (px_tor (px_tval (px_def C_is_cells hr (by decide) rfl rfl (px_cons (px_tup (px_cons (px_bin od_mul (px_tup (px_cons (px_none) (px_nil))) (pxv 2)) (px_nil))) (px_nil)) (ln_cons ln_nil))) (px_tor1 (px_tval (px_def C_is_cells hr (by decide) rfl rfl (px_cons (px_tup (px_cons (px_bin od_mul (px_tup (px_cons (px_bool) (px_nil))) (pxv 2)) (px_nil))) (px_nil)) (ln_cons ln_nil)))))))))) (px_sone (px_ret (px_bool))) (px_snil)) (px_scons (px_ifs (px_tval (px_def C_is_cells hr (by decide) rfl rfl (px_cons (px_none) (px_nil)) (ln_cons ln_nil))) (px_sone (px_ret (px_bool))) (px_snil)) (px_scons (px_set hN rfl (by first | exact .inl rfl | exact .inr rfl) (px_tup (px_cons (px_bin od_mul (px_tup (px_cons (px_int) (px_nil))) (pxv 2)) (px_cons (px_bin od_mul (px_tup (px_cons (px_int) (px_nil))) (pxv 2)) (px_nil))))) (px_scons (px_ifs (PW.pt (px_tor (px_tnot (px_tval (px_def C_is_tally hr (by decide) rfl rfl (px_cons (pxv 3) (px_cons (px_bin od_mul (px_tup (px_cons (px_tup (px_cons (px_int) (px_cons (px_int) (px_cons (px_int) (px_cons (px_int) (px_cons (px_int) (px_nil))))))) (px_nil))) (px_int)) (px_nil))) (ln_cons (ln_cons ln_nil))))) (px_tor (px_tval (px_def C_is_tally hr (by decide) rfl rfl (px_cons (pxv 3) (px_cons (px_bin od_mul (px_tup (px_cons (px_tup (px_cons (px_int) (px_cons (px_int) (px_cons (px_int) (px_cons (px_int) (px_cons (px_int) (px_nil))))))) (px_nil))) (px_int)) (px_nil))) (ln_cons (ln_cons ln_nil)))) (px_tor (px_tval (px_def C_is_tally hr (by decide) rfl rfl (px_cons (pxv 3) (px_cons (px_tup (px_cons (px_bin od_mul (px_tup (px_cons (px_int) (px_nil))) (px_int)) (px_nil))) (px_nil))) (ln_cons (ln_cons ln_nil)))) (px_tor (px_tval (px_def C_is_tally hr (by decide) rfl rfl (px_cons (pxv 3) (px_cons (px_bin od_mul (px_tup (px_cons (px_bin od_mul (px_tup (px_cons (px_int) (px_nil))) (px_int)) (px_nil))) (px_int)) (px_nil))) (ln_cons (ln_cons ln_nil)))) (px_tor (px_tval (px_def C_is_tally hr (by decide) rfl rfl (px_cons (pxv 3) (px_cons (px_ofO noSl_lst (px_lstO (px_cons (px_bin od_mul (px_tup (px_cons (px_int) (px_nil))) (px_int)) (px_cons (px_bin od_mul (px_tup (px_cons (px_int) (px_nil))) (px_int)) (px_nil))))) (px_nil))) (ln_cons (ln_cons ln_nil)))) (px_tor (px_tval (px_def C_is_tally hr (by decide) rfl rfl (px_cons (pxv 3) (px_cons (px_tup (px_cons (px_bin od_mul (px_ofO noSl_lst (px_lstO (px_cons (px_int) (px_nil)))) (px_int)) (px_cons (px_bin od_mul (px_tup (px_cons (px_int) (px_nil))) (px_int)) (px_nil)))) (px_nil))) (ln_cons (ln_cons ln_nil)))) (px_tor (px_tval (px_def C_is_tally hr (by decide) rfl rfl (px_cons (pxv 3) (px_cons (px_tup (px_cons (px_bin od_mul (px_tup (px_cons (px_bool) (px_nil))) (px_int)) (px_cons (px_bin od_mul (px_tup (px_cons (px_int) (px_nil))) (px_int)) (px_nil)))) (px_nil))) (ln_cons (ln_cons ln_nil)))) (px_tor (px_tval (px_def C_is_tally hr (by decide) rfl rfl (px_cons (pxv 3) (px_cons (px_bin od_mul (px_tup (px_cons (px_bin od_mul (px_tup (px_cons (px_un ud_neg (px_int)) (px_nil))) (px_int)) (px_nil))) (px_int)) (px_nil))) (ln_cons (ln_cons ln_nil)))) (px_tor1 (px_tval (px_def C_is_tally hr (by decide) rfl rfl (px_cons (pxv 3) (px_cons (px_none) (px_nil))) (ln_cons (ln_cons ln_nil)))))))))))))) (px_sone (px_ret (px_bool))) (px_snil)) (px_scons (px_par rfl hN rfl rfl (by decide) rfl rfl (px_cons (px_bin od_add (px_int) (px_defM C__law_next hr (by decide) rfl rfl (px_cons (pxv 1) (px_cons (px_int) (px_nil))) (ln_cons (ln_cons ln_nil)))) (px_cons (px_bool) (px_nil))) (by rfl)) (px_scons (px_for .never rfl (px_irng1 rfl T.n_range (px_cons (px_int) (px_nil))) (px_gn hN rfl (by first | exact .inl rfl | exact .inr rfl)) (px_sone (px_set hN rfl (by first | exact .inl rfl | exact .inr rfl) (px_tup (px_cons (px_bin od_sub (pxv 6) (px_bin od_mul (pxv 4) (px_bin od_div (pxv 6) (pxv 4)))) (px_cons (pxv 5) (px_cons (px_bool) (px_nil)))))))) (px_scons (px_ifs (PW.pt (px_tor (px_tnot (px_tval (px_def C_is_asking hr (by decide) rfl rfl (px_cons (pxv 4) (px_cons (pxv 5) (px_nil))) (ln_cons (ln_cons ln_nil))))) (px_tor (px_tval (px_def C_is_asking hr (by decide) rfl rfl (px_cons (pxv 4) (px_cons (px_tup (px_cons (px_int) (px_cons (pxv 5) (px_cons (px_bool) (px_nil))))) (px_nil))) (ln_cons (ln_cons ln_nil)))) (px_tor (px_tnot (px_tval (px_def C_is_asking hr (by decide) rfl rfl (px_cons (pxv 4) (px_cons (px_bool) (px_nil))) (ln_cons (ln_cons ln_nil))))) (px_tor (px_tval (px_def C_is_asking hr (by decide) rfl rfl (px_cons (pxv 4) (px_cons (px_int) (px_nil))) (ln_cons (ln_cons ln_nil)))) (px_tor (px_tval (px_def C_is_asking hr (by decide) rfl rfl (px_cons (pxv 4) (px_cons (px_tup (px_cons (pxv 4) (px_cons (px_bool) (px_cons (px_bool) (px_nil))))) (px_nil))) (ln_cons (ln_cons ln_nil)))) (px_tor (px_tval (px_def C_is_asking hr (by decide) rfl rfl (px_cons (pxv 4) (px_cons (px_tup (px_cons (px_int) (px_cons (px_bool) (px_nil)))) (px_nil))) (ln_cons (ln_cons ln_nil)))) (px_tor (px_tval (px_def C_is_asking hr (by decide) rfl rfl (px_cons (pxv 4) (px_cons (px_ofO noSl_lst (px_lstO (px_cons (px_int) (px_cons (px_bool) (px_cons (px_bool) (px_nil)))))) (px_nil))) (ln_cons (ln_cons ln_nil)))) (px_tor (px_tval (px_def C_is_asking hr (by decide) rfl rfl (px_cons (pxv 4) (px_cons (px_tup (px_cons (px_int) (px_cons (px_bool) (px_cons (px_none) (px_nil))))) (px_nil))) (ln_cons (ln_cons ln_nil)))) (px_tor (px_tval (px_def C_is_asking hr (by decide) rfl rfl (px_cons (pxv 4) (px_cons (px_tup (px_cons (px_bool) (px_cons (px_bool) (px_cons (px_bool) (px_nil))))) (px_nil))) (ln_cons (ln_cons ln_nil)))) (px_tor (px_tval (px_def C_is_asking hr (by decide) rfl rfl (px_cons (pxv 4) (px_cons (px_tup (px_nil)) (px_nil))) (ln_cons (ln_cons ln_nil)))) (px_tor1 (px_tval (px_def C_is_asking hr (by decide) rfl rfl (px_cons (pxv 4) (px_cons (px_none) (px_nil))) (ln_cons (ln_cons ln_nil)))))))))))))))) (px_sone (px_ret (px_bool))) (px_snil)) (px_scons (px_ifs (PW.pt (px_tor (px_tnot (px_tval (px_def C_is_seen_letters hr (by decide) rfl rfl (px_cons (pxv 4) (px_cons (px_bin od_mul (px_tup (px_cons (px_tup (px_cons (px_tup (px_nil)) (px_cons (px_bool) (px_nil)))) (px_cons (px_tup (px_cons (px_tup (px_cons (px_bin od_sub (pxv 4) (px_int)) (px_nil))) (px_cons (px_bool) (px_nil)))) (px_nil)))) (px_int)) (px_nil))) (ln_cons (ln_cons ln_nil))))) (px_tor (px_tval (px_def C_is_seen_letters hr (by decide) rfl rfl (px_cons (pxv 4) (px_cons (px_bin od_mul (px_tup (px_cons (px_tup (px_cons (px_tup (px_nil)) (px_cons (px_bool) (px_nil)))) (px_nil))) (px_int)) (px_nil))) (ln_cons (ln_cons ln_nil)))) (px_tor1 (px_tnot (px_tval (px_def C_is_seen_letters hr (by decide) rfl rfl (px_cons (pxv 4) (px_cons (px_tup (px_nil)) (px_nil))) (ln_cons (ln_cons ln_nil))))))))) (px_sone (px_ret (px_bool))) (px_snil)) (px_scons (px_ifs (PW.pt (px_tor (px_tval (px_def C_is_seen_letters hr (by decide) rfl rfl (px_cons (pxv 4) (px_cons (px_tup (px_cons (px_tup (px_cons (px_tup (px_cons (pxv 4) (px_nil))) (px_cons (px_bool) (px_nil)))) (px_nil))) (px_nil))) (ln_cons (ln_cons ln_nil)))) (px_tor (px_tval (px_def C_is_seen_letters hr (by decide) rfl rfl (px_cons (pxv 4) (px_cons (px_tup (px_cons (px_tup (px_cons (px_tup (px_cons (px_int) (px_cons (px_int) (px_nil)))) (px_cons (px_bool) (px_nil)))) (px_nil))) (px_nil))) (ln_cons (ln_cons ln_nil)))) (px_tor (px_tval (px_def C_is_seen_letters hr (by decide) rfl rfl (px_cons (pxv 4) (px_cons (px_tup (px_cons (px_tup (px_cons (px_tup (px_nil)) (px_cons (px_int) (px_nil)))) (px_nil))) (px_nil))) (ln_cons (ln_cons ln_nil)))) (px_tor1 (px_tval (px_def C_is_seen_letters hr (by decide) rfl rfl (px_cons (pxv 4) (px_cons (px_ofO noSl_lst (px_lstO (px_cons (px_tup (px_cons (px_tup (px_nil)) (px_cons (px_bool) (px_nil)))) (px_nil)))) (px_nil))) (ln_cons (ln_cons ln_nil))))))))) (px_sone (px_ret (px_bool))) (px_snil)) (px_scons (px_ifs (PW.pt (px_tor (px_tval (px_def C_is_seen_letters hr (by decide) rfl rfl (px_cons (pxv 4) (px_cons (px_tup (px_cons (px_ofO noSl_lst (px_lstO (px_cons (px_tup (px_nil)) (px_cons (px_bool) (px_nil))))) (px_nil))) (px_nil))) (ln_cons (ln_cons ln_nil)))) (px_tor (px_tval (px_def C_is_seen_letters hr (by decide) rfl rfl (px_cons (pxv 4) (px_cons (px_tup (px_cons (px_tup (px_cons (px_ofO noSl_lst (px_lstO (px_nil))) (px_cons (px_bool) (px_nil)))) (px_nil))) (px_nil))) (ln_cons (ln_cons ln_nil)))) (px_tor1 (px_tval (px_def C_is_seen_letters hr (by decide) rfl rfl (px_cons (pxv 4) (px_cons (px_none) (px_nil))) (ln_cons (ln_cons ln_nil)))))))) (px_sone (px_ret (px_bool))) (px_snil)) (px_scons (px_ifs (PW.pt (px_tor (px_tnot (px_tval (px_def C_is_calls hr (by decide) rfl rfl (px_cons (px_bin od_mul (px_tup (px_cons (px_int) (px_nil))) (px_int)) (px_nil)) (ln_cons ln_nil)))) (px_tor (px_tval (px_def C_is_calls hr (by decide) rfl rfl (px_cons (px_bin od_mul (px_tup (px_cons (px_int) (px_nil))) (px_int)) (px_nil)) (ln_cons ln_nil))) (px_tor (px_tnot (px_tval (px_def C_is_calls hr (by decide) rfl rfl (px_cons (px_tup (px_nil)) (px_nil)) (ln_cons ln_nil)))) (px_tor (px_tval (px_def C_is_calls hr (by decide) rfl rfl (px_cons (px_tup (px_cons (px_int) (px_nil))) (px_nil)) (ln_cons ln_nil))) (px_tor (px_tval (px_def C_is_calls hr (by decide) rfl rfl (px_cons (px_tup (px_cons (px_un ud_neg (px_int)) (px_nil))) (px_nil)) (ln_cons ln_nil))) (px_tor (px_tval (px_def C_is_calls hr (by decide) rfl rfl (px_cons (px_ofO noSl_lst (px_lstO (px_cons (px_int) (px_nil)))) (px_nil)) (ln_cons ln_nil))) (px_tor (px_tval (px_def C_is_calls hr (by decide) rfl rfl (px_cons (px_tup (px_cons (px_bool) (px_nil))) (px_nil)) (ln_cons ln_nil))) (px_tor1 (px_tval (px_def C_is_calls hr (by decide) rfl rfl (px_cons (px_none) (px_nil)) (ln_cons ln_nil)))))))))))) (px_sone (px_ret (px_bool))) (px_snil)) (px_scons (px_set hN rfl (by first | exact .inl rfl | exact .inr rfl) (px_bin od_mul (px_tup (px_cons (pxv 2) (px_nil))) (pxv 2))) (px_scons (px_ifs (PW.pt (px_tor (px_tnot (px_tval (px_def C_is_kept_row hr (by decide) rfl rfl (px_cons (pxv 7) (px_cons (px_int) (px_cons (px_bin od_mul (px_tup (px_cons (px_tup (px_cons (pxv 2) (px_nil))) (px_nil))) (pxv 2)) (px_nil)))) (ln_cons (ln_cons (ln_cons ln_nil)))))) (px_tor (px_tval (px_def C_is_kept_row hr (by decide) rfl rfl (px_cons (pxv 7) (px_cons (px_int) (px_cons (px_bin od_mul (px_tup (px_cons (px_tup (px_cons (pxv 2) (px_nil))) (px_nil))) (px_bin od_add (pxv 2) (px_int))) (px_nil)))) (ln_cons (ln_cons (ln_cons ln_nil))))) (px_tor (px_tval (px_def C_is_kept_row hr (by decide) rfl rfl (px_cons (pxv 7) (px_cons (px_int) (px_cons (px_bin od_mul (px_tup (px_cons (px_tup (px_cons (px_int) (px_cons (pxv 2) (px_nil)))) (px_nil))) (pxv 2)) (px_nil)))) (ln_cons (ln_cons (ln_cons ln_nil))))) (px_tor (px_tval (px_def C_is_kept_row hr (by decide) rfl rfl (px_cons (pxv 7) (px_cons (px_int) (px_cons (px_bin od_mul (px_tup (px_cons (px_tup (px_nil)) (px_nil))) (pxv 2)) (px_nil)))) (ln_cons (ln_cons (ln_cons ln_nil))))) (px_tor (px_tval (px_def C_is_kept_row hr (by decide) rfl rfl (px_cons (pxv 7) (px_cons (px_int) (px_cons (px_bin od_mul (px_tup (px_cons (px_ofO noSl_lst (px_lstO (px_cons (pxv 2) (px_nil)))) (px_nil))) (pxv 2)) (px_nil)))) (ln_cons (ln_cons (ln_cons ln_nil))))) (px_tor (px_tval (px_def C_is_kept_row hr (by decide) rfl rfl (px_cons (pxv 7) (px_cons (px_int) (px_cons (px_bin od_mul (px_tup (px_cons (px_tup (px_cons (pxv 2) (px_cons (pxv 2) (px_nil)))) (px_nil))) (pxv 2)) (px_nil)))) (ln_cons (ln_cons (ln_cons ln_nil))))) (px_tor (px_tval (px_def C_is_kept_row hr (by decide) rfl rfl (px_cons (pxv 7) (px_cons (px_int) (px_cons (px_bin od_mul (px_ofO noSl_lst (px_lstO (px_cons (px_tup (px_cons (pxv 2) (px_nil))) (px_nil)))) (pxv 2)) (px_nil)))) (ln_cons (ln_cons (ln_cons ln_nil))))) (px_tor1 (px_tval (px_def C_is_kept_row hr (by decide) rfl rfl (px_cons (pxv 7) (px_cons (px_int) (px_cons (px_none) (px_nil)))) (ln_cons (ln_cons (ln_cons ln_nil)))))))))))))) (px_sone (px_ret (px_bool))) (px_snil)) (px_scons (px_ifs (PW.pt (px_tor (px_tnot (px_tval (px_def C_is_look_counts hr (by decide) rfl rfl (px_cons (px_bin od_mul (px_tup (px_cons (px_int) (px_nil))) (px_int)) (px_nil)) (ln_cons ln_nil)))) (px_tor (px_tval (px_def C_is_look_counts hr (by decide) rfl rfl (px_cons (px_bin od_mul (px_tup (px_cons (px_int) (px_nil))) (px_int)) (px_nil)) (ln_cons ln_nil))) (px_tor (px_tval (px_def C_is_look_counts hr (by decide) rfl rfl (px_cons (px_tup (px_cons (px_int) (px_nil))) (px_nil)) (ln_cons ln_nil))) (px_tor (px_tval (px_def C_is_look_counts hr (by decide) rfl rfl (px_cons (px_tup (px_nil)) (px_nil)) (ln_cons ln_nil))) (px_tor (px_tval (px_def C_is_look_counts hr (by decide) rfl rfl (px_cons (px_ofO noSl_lst (px_lstO (px_cons (px_int) (px_nil)))) (px_nil)) (ln_cons ln_nil))) (px_tor1 (px_tval (px_def C_is_look_counts hr (by decide) rfl rfl (px_cons (px_tup (px_cons (px_un ud_neg (px_int)) (px_nil))) (px_nil)) (ln_cons ln_nil)))))))))) (px_sone (px_ret (px_bool))) (px_snil)) (px_scons (px_ifs (PW.pt (px_tor (px_tval (px_def C_is_look_counts hr (by decide) rfl rfl (px_cons (px_tup (px_cons (px_bool) (px_nil))) (px_nil)) (ln_cons ln_nil))) (px_tor1 (px_tval (px_def C_is_look_counts hr (by decide) rfl rfl (px_cons (px_none) (px_nil)) (ln_cons ln_nil)))))) (px_sone (px_ret (px_bool))) (px_snil)) (px_scons (px_set hN rfl (by first | exact .inl rfl | exact .inr rfl) (px_none)) (px_scons (px_for .never rfl (px_irng1 rfl T.n_range (px_cons (pxv 2) (px_nil))) (px_gn hN rfl (by first | exact .inl rfl | exact .inr rfl)) (px_sone (px_set hN rfl (by first | exact .inl rfl | exact .inr rfl) (px_tup (px_cons (pxv 9) (px_cons (pxv 8) (px_cons (px_none) (px_nil)))))))) (px_scons (px_set hN rfl (by first | exact .inl rfl | exact .inr rfl) (px_bin od_mul (px_tup (px_cons (px_int) (px_nil))) (pxv 2))) (px_sone (px_ret (px_and (px_def C_is_search_tree hr (by decide) rfl rfl (px_cons (pxv 10) (px_cons (pxv 8) (px_nil))) (ln_cons (ln_cons ln_nil))) (px_and (px_not (px_def C_is_search_tree hr (by decide) rfl rfl (px_cons (pxv 10) (px_cons (px_tup (px_cons (pxv 2) (px_cons (pxv 8) (px_cons (px_none) (px_nil))))) (px_nil))) (ln_cons (ln_cons ln_nil)))) (px_and (px_not (px_def C_is_search_tree hr (by decide) rfl rfl (px_cons (pxv 10) (px_cons (px_none) (px_nil))) (ln_cons (ln_cons ln_nil)))) (px_and (px_not (px_def C_is_search_tree hr (by decide) rfl rfl (px_cons (pxv 10) (px_cons (px_tup (px_cons (px_ix (xd_ixD HU) (pxv 8) (px_int) (fun _ _ => rfl)) (px_cons (px_ix (xd_ixD HU) (pxv 8) (px_int) (fun _ _ => rfl)) (px_cons (pxv 8) (px_nil))))) (px_nil))) (ln_cons (ln_cons ln_nil)))) (px_and (px_not (px_def C_is_search_tree hr (by decide) rfl rfl (px_cons (pxv 10) (px_cons (px_ofO noSl_lst (px_lstO (px_cons (px_ix (xd_ixD HU) (pxv 8) (px_int) (fun _ _ => rfl)) (px_cons (px_ix (xd_ixD HU) (pxv 8) (px_int) (fun _ _ => rfl)) (px_cons (px_none) (px_nil)))))) (px_nil))) (ln_cons (ln_cons ln_nil)))) (px_and (px_not (px_def C_is_search_tree hr (by decide) rfl rfl (px_cons (px_bin od_add (pxv 10) (px_tup (px_cons (px_int) (px_nil)))) (px_cons (pxv 8) (px_nil))) (ln_cons (ln_cons ln_nil)))) (px_one (px_not (px_def C_is_search_tree hr (by decide) rfl rfl (px_cons (pxv 10) (px_cons (px_slice (pxv 8) (px_pn) (px_ps (px_int))) (px_nil))) (ln_cons (ln_cons ln_nil)))))))))))))))))))))))))))))))))) hT
end
theorem all_mk {l : PySem.W.OpenLaw} {w : World} {K : Frag} {h : Heap} {mg : Str → Option Value} {fa : Addr} (hT : LawT 11 g_law) (X : K.In h) (G : h.Ns mainGlobals mg) (hfa : mg "law" = some (.ref fa))
    {f4 : Addr} {oc4 : Value} {od4 an4 : Option Addr} {sl4 : Array (Option Value)} {kV4 dc4 pm4 cd4 ct4 : Value}
    (a4 : PySem.W.nsIn K mainGlobals "is_whole" = some (some (.ref f4))) (l4 : K.lookup f4 = some ⟨oc4, od4, .func (PySem.W.fnOf "is_whole" "is_whole" (defArgs (top 4)) (defBody (top 4)) (defScope (top 4)) .none kV4 dc4 pm4 an4 cd4 ct4), sl4⟩) (c4 : PySem.W.codeIn K cd4 "is_whole" = true) (k4 : PySem.W.keepIn K (.ref f4) = true)
    {f5 : Addr} {oc5 : Value} {od5 an5 : Option Addr} {sl5 : Array (Option Value)} {kV5 dc5 pm5 cd5 ct5 : Value}
    (a5 : PySem.W.nsIn K mainGlobals "is_from" = some (some (.ref f5))) (l5 : K.lookup f5 = some ⟨oc5, od5, .func (PySem.W.fnOf "is_from" "is_from" (defArgs (top 5)) (defBody (top 5)) (defScope (top 5)) .none kV5 dc5 pm5 an5 cd5 ct5), sl5⟩) (c5 : PySem.W.codeIn K cd5 "is_from" = true) (k5 : PySem.W.keepIn K (.ref f5) = true)
    {f12 : Addr} {oc12 : Value} {od12 an12 : Option Addr} {sl12 : Array (Option Value)} {kV12 dc12 pm12 cd12 ct12 : Value}
    (a12 : PySem.W.nsIn K mainGlobals "is_cells" = some (some (.ref f12))) (l12 : K.lookup f12 = some ⟨oc12, od12, .func (PySem.W.fnOf "is_cells" "is_cells" (defArgs (top 12)) (defBody (top 12)) (defScope (top 12)) .none kV12 dc12 pm12 an12 cd12 ct12), sl12⟩) (c12 : PySem.W.codeIn K cd12 "is_cells" = true) (k12 : PySem.W.keepIn K (.ref f12) = true)
    {f33 : Addr} {oc33 : Value} {od33 an33 : Option Addr} {sl33 : Array (Option Value)} {kV33 dc33 pm33 cd33 ct33 : Value}
    (a33 : PySem.W.nsIn K mainGlobals "_law_draw" = some (some (.ref f33))) (l33 : K.lookup f33 = some ⟨oc33, od33, .func (PySem.W.fnOf "_law_draw" "_law_draw" (defArgs (top 33)) (defBody (top 33)) (defScope (top 33)) .none kV33 dc33 pm33 an33 cd33 ct33), sl33⟩) (c33 : PySem.W.codeIn K cd33 "_law_draw" = true) (k33 : PySem.W.keepIn K (.ref f33) = true)
    {f34 : Addr} {oc34 : Value} {od34 an34 : Option Addr} {sl34 : Array (Option Value)} {kV34 dc34 pm34 cd34 ct34 : Value}
    (a34 : PySem.W.nsIn K mainGlobals "_law_number" = some (some (.ref f34))) (l34 : K.lookup f34 = some ⟨oc34, od34, .func (PySem.W.fnOf "_law_number" "_law_number" (defArgs (top 34)) (defBody (top 34)) (defScope (top 34)) .none kV34 dc34 pm34 an34 cd34 ct34), sl34⟩) (c34 : PySem.W.codeIn K cd34 "_law_number" = true) (k34 : PySem.W.keepIn K (.ref f34) = true)
    {f32 : Addr} {oc32 : Value} {od32 an32 : Option Addr} {sl32 : Array (Option Value)} {kV32 dc32 pm32 cd32 ct32 : Value}
    (a32 : PySem.W.nsIn K mainGlobals "_law_cell_at" = some (some (.ref f32))) (l32 : K.lookup f32 = some ⟨oc32, od32, .func (PySem.W.fnOf "_law_cell_at" "_law_cell_at" (defArgs (top 32)) (defBody (top 32)) (defScope (top 32)) .none kV32 dc32 pm32 an32 cd32 ct32), sl32⟩) (c32 : PySem.W.codeIn K cd32 "_law_cell_at" = true) (k32 : PySem.W.keepIn K (.ref f32) = true)
    {f35 : Addr} {oc35 : Value} {od35 an35 : Option Addr} {sl35 : Array (Option Value)} {kV35 dc35 pm35 cd35 ct35 : Value}
    (a35 : PySem.W.nsIn K mainGlobals "_law_next" = some (some (.ref f35))) (l35 : K.lookup f35 = some ⟨oc35, od35, .func (PySem.W.fnOf "_law_next" "_law_next" (defArgs (top 35)) (defBody (top 35)) (defScope (top 35)) .none kV35 dc35 pm35 an35 cd35 ct35), sl35⟩) (c35 : PySem.W.codeIn K cd35 "_law_next" = true) (k35 : PySem.W.keepIn K (.ref f35) = true)
    {f13 : Addr} {oc13 : Value} {od13 an13 : Option Addr} {sl13 : Array (Option Value)} {kV13 dc13 pm13 cd13 ct13 : Value}
    (a13 : PySem.W.nsIn K mainGlobals "check_cells" = some (some (.ref f13))) (l13 : K.lookup f13 = some ⟨oc13, od13, .func (PySem.W.fnOf "check_cells" "check_cells" (defArgs (top 13)) (defBody (top 13)) (defScope (top 13)) .none kV13 dc13 pm13 an13 cd13 ct13), sl13⟩) (c13 : PySem.W.codeIn K cd13 "check_cells" = true) (k13 : PySem.W.keepIn K (.ref f13) = true)
    {f6 : Addr} {oc6 : Value} {od6 an6 : Option Addr} {sl6 : Array (Option Value)} {kV6 dc6 pm6 cd6 ct6 : Value}
    (a6 : PySem.W.nsIn K mainGlobals "is_many" = some (some (.ref f6))) (l6 : K.lookup f6 = some ⟨oc6, od6, .func (PySem.W.fnOf "is_many" "is_many" (defArgs (top 6)) (defBody (top 6)) (defScope (top 6)) .none kV6 dc6 pm6 an6 cd6 ct6), sl6⟩) (c6 : PySem.W.codeIn K cd6 "is_many" = true) (k6 : PySem.W.keepIn K (.ref f6) = true)
    {f14 : Addr} {oc14 : Value} {od14 an14 : Option Addr} {sl14 : Array (Option Value)} {kV14 dc14 pm14 cd14 ct14 : Value}
    (a14 : PySem.W.nsIn K mainGlobals "is_tally" = some (some (.ref f14))) (l14 : K.lookup f14 = some ⟨oc14, od14, .func (PySem.W.fnOf "is_tally" "is_tally" (defArgs (top 14)) (defBody (top 14)) (defScope (top 14)) .none kV14 dc14 pm14 an14 cd14 ct14), sl14⟩) (c14 : PySem.W.codeIn K cd14 "is_tally" = true) (k14 : PySem.W.keepIn K (.ref f14) = true)
    {f18 : Addr} {oc18 : Value} {od18 an18 : Option Addr} {sl18 : Array (Option Value)} {kV18 dc18 pm18 cd18 ct18 : Value}
    (a18 : PySem.W.nsIn K mainGlobals "is_asking_to" = some (some (.ref f18))) (l18 : K.lookup f18 = some ⟨oc18, od18, .func (PySem.W.fnOf "is_asking_to" "is_asking_to" (defArgs (top 18)) (defBody (top 18)) (defScope (top 18)) .none kV18 dc18 pm18 an18 cd18 ct18), sl18⟩) (c18 : PySem.W.codeIn K cd18 "is_asking_to" = true) (k18 : PySem.W.keepIn K (.ref f18) = true)
    {f17 : Addr} {oc17 : Value} {od17 an17 : Option Addr} {sl17 : Array (Option Value)} {kV17 dc17 pm17 cd17 ct17 : Value}
    (a17 : PySem.W.nsIn K mainGlobals "is_asking" = some (some (.ref f17))) (l17 : K.lookup f17 = some ⟨oc17, od17, .func (PySem.W.fnOf "is_asking" "is_asking" (defArgs (top 17)) (defBody (top 17)) (defScope (top 17)) .none kV17 dc17 pm17 an17 cd17 ct17), sl17⟩) (c17 : PySem.W.codeIn K cd17 "is_asking" = true) (k17 : PySem.W.keepIn K (.ref f17) = true)
    {f7 : Addr} {oc7 : Value} {od7 an7 : Option Addr} {sl7 : Array (Option Value)} {kV7 dc7 pm7 cd7 ct7 : Value}
    (a7 : PySem.W.nsIn K mainGlobals "ascends" = some (some (.ref f7))) (l7 : K.lookup f7 = some ⟨oc7, od7, .func (PySem.W.fnOf "ascends" "ascends" (defArgs (top 7)) (defBody (top 7)) (defScope (top 7)) .none kV7 dc7 pm7 an7 cd7 ct7), sl7⟩) (c7 : PySem.W.codeIn K cd7 "ascends" = true) (k7 : PySem.W.keepIn K (.ref f7) = true)
    {f8 : Addr} {oc8 : Value} {od8 an8 : Option Addr} {sl8 : Array (Option Value)} {kV8 dc8 pm8 cd8 ct8 : Value}
    (a8 : PySem.W.nsIn K mainGlobals "is_lot" = some (some (.ref f8))) (l8 : K.lookup f8 = some ⟨oc8, od8, .func (PySem.W.fnOf "is_lot" "is_lot" (defArgs (top 8)) (defBody (top 8)) (defScope (top 8)) .none kV8 dc8 pm8 an8 cd8 ct8), sl8⟩) (c8 : PySem.W.codeIn K cd8 "is_lot" = true) (k8 : PySem.W.keepIn K (.ref f8) = true)
    {f19 : Addr} {oc19 : Value} {od19 an19 : Option Addr} {sl19 : Array (Option Value)} {kV19 dc19 pm19 cd19 ct19 : Value}
    (a19 : PySem.W.nsIn K mainGlobals "is_seen_letters" = some (some (.ref f19))) (l19 : K.lookup f19 = some ⟨oc19, od19, .func (PySem.W.fnOf "is_seen_letters" "is_seen_letters" (defArgs (top 19)) (defBody (top 19)) (defScope (top 19)) .none kV19 dc19 pm19 an19 cd19 ct19), sl19⟩) (c19 : PySem.W.codeIn K cd19 "is_seen_letters" = true) (k19 : PySem.W.keepIn K (.ref f19) = true)
    {f28 : Addr} {oc28 : Value} {od28 an28 : Option Addr} {sl28 : Array (Option Value)} {kV28 dc28 pm28 cd28 ct28 : Value}
    (a28 : PySem.W.nsIn K mainGlobals "is_calls" = some (some (.ref f28))) (l28 : K.lookup f28 = some ⟨oc28, od28, .func (PySem.W.fnOf "is_calls" "is_calls" (defArgs (top 28)) (defBody (top 28)) (defScope (top 28)) .none kV28 dc28 pm28 an28 cd28 ct28), sl28⟩) (c28 : PySem.W.codeIn K cd28 "is_calls" = true) (k28 : PySem.W.keepIn K (.ref f28) = true)
    {f29 : Addr} {oc29 : Value} {od29 an29 : Option Addr} {sl29 : Array (Option Value)} {kV29 dc29 pm29 cd29 ct29 : Value}
    (a29 : PySem.W.nsIn K mainGlobals "check_calls" = some (some (.ref f29))) (l29 : K.lookup f29 = some ⟨oc29, od29, .func (PySem.W.fnOf "check_calls" "check_calls" (defArgs (top 29)) (defBody (top 29)) (defScope (top 29)) .none kV29 dc29 pm29 an29 cd29 ct29), sl29⟩) (c29 : PySem.W.codeIn K cd29 "check_calls" = true) (k29 : PySem.W.keepIn K (.ref f29) = true)
    {f30 : Addr} {oc30 : Value} {od30 an30 : Option Addr} {sl30 : Array (Option Value)} {kV30 dc30 pm30 cd30 ct30 : Value}
    (a30 : PySem.W.nsIn K mainGlobals "is_kept_row" = some (some (.ref f30))) (l30 : K.lookup f30 = some ⟨oc30, od30, .func (PySem.W.fnOf "is_kept_row" "is_kept_row" (defArgs (top 30)) (defBody (top 30)) (defScope (top 30)) .none kV30 dc30 pm30 an30 cd30 ct30), sl30⟩) (c30 : PySem.W.codeIn K cd30 "is_kept_row" = true) (k30 : PySem.W.keepIn K (.ref f30) = true)
    {f22 : Addr} {oc22 : Value} {od22 an22 : Option Addr} {sl22 : Array (Option Value)} {kV22 dc22 pm22 cd22 ct22 : Value}
    (a22 : PySem.W.nsIn K mainGlobals "is_look_counts" = some (some (.ref f22))) (l22 : K.lookup f22 = some ⟨oc22, od22, .func (PySem.W.fnOf "is_look_counts" "is_look_counts" (defArgs (top 22)) (defBody (top 22)) (defScope (top 22)) .none kV22 dc22 pm22 an22 cd22 ct22), sl22⟩) (c22 : PySem.W.codeIn K cd22 "is_look_counts" = true) (k22 : PySem.W.keepIn K (.ref f22) = true)
    {f23 : Addr} {oc23 : Value} {od23 an23 : Option Addr} {sl23 : Array (Option Value)} {kV23 dc23 pm23 cd23 ct23 : Value}
    (a23 : PySem.W.nsIn K mainGlobals "check_look_counts" = some (some (.ref f23))) (l23 : K.lookup f23 = some ⟨oc23, od23, .func (PySem.W.fnOf "check_look_counts" "check_look_counts" (defArgs (top 23)) (defBody (top 23)) (defScope (top 23)) .none kV23 dc23 pm23 an23 cd23 ct23), sl23⟩) (c23 : PySem.W.codeIn K cd23 "check_look_counts" = true) (k23 : PySem.W.keepIn K (.ref f23) = true)
    {f25 : Addr} {oc25 : Value} {od25 an25 : Option Addr} {sl25 : Array (Option Value)} {kV25 dc25 pm25 cd25 ct25 : Value}
    (a25 : PySem.W.nsIn K mainGlobals "is_search_in" = some (some (.ref f25))) (l25 : K.lookup f25 = some ⟨oc25, od25, .func (PySem.W.fnOf "is_search_in" "is_search_in" (defArgs (top 25)) (defBody (top 25)) (defScope (top 25)) .none kV25 dc25 pm25 an25 cd25 ct25), sl25⟩) (c25 : PySem.W.codeIn K cd25 "is_search_in" = true) (k25 : PySem.W.keepIn K (.ref f25) = true)
    {f24 : Addr} {oc24 : Value} {od24 an24 : Option Addr} {sl24 : Array (Option Value)} {kV24 dc24 pm24 cd24 ct24 : Value}
    (a24 : PySem.W.nsIn K mainGlobals "is_search_tree" = some (some (.ref f24))) (l24 : K.lookup f24 = some ⟨oc24, od24, .func (PySem.W.fnOf "is_search_tree" "is_search_tree" (defArgs (top 24)) (defBody (top 24)) (defScope (top 24)) .none kV24 dc24 pm24 an24 cd24 ct24), sl24⟩) (c24 : PySem.W.codeIn K cd24 "is_search_tree" = true) (k24 : PySem.W.keepIn K (.ref f24) = true)
    {f36 : Addr} {oc36 : Value} {od36 an36 : Option Addr} {sl36 : Array (Option Value)} {kV36 dc36 pm36 cd36 ct36 : Value}
    (a36 : PySem.W.nsIn K mainGlobals "law" = some (some (.ref f36))) (l36 : K.lookup f36 = some ⟨oc36, od36, .func (PySem.W.fnOf "law" "law" (defArgs (top 36)) (defBody (top 36)) (defScope (top 36)) .none kV36 dc36 pm36 an36 cd36 ct36), sl36⟩) (c36 : PySem.W.codeIn K cd36 "law" = true) (k36 : PySem.W.keepIn K (.ref f36) = true)
    (n_all : PySem.W.nsIn K mainGlobals "all" = some none)
    (n_bool : PySem.W.nsIn K mainGlobals "bool" = some none)
    (n_enumerate : PySem.W.nsIn K mainGlobals "enumerate" = some none)
    (n_int : PySem.W.nsIn K mainGlobals "int" = some none)
    (n_isinstance : PySem.W.nsIn K mainGlobals "isinstance" = some none)
    (n_len : PySem.W.nsIn K mainGlobals "len" = some none)
    (n_list : PySem.W.nsIn K mainGlobals "list" = some none)
    (n_range : PySem.W.nsIn K mainGlobals "range" = some none)
    (n_sorted : PySem.W.nsIn K mainGlobals "sorted" = some none)
    (n_tuple : PySem.W.nsIn K mainGlobals "tuple" = some none)
    (n_zip : PySem.W.nsIn K mainGlobals "zip" = some none)
    {t_MOST_ASKED : Tok} (i_MOST_ASKED : PySem.W.nsIn K mainGlobals "MOST_ASKED" = some (some (.int 4 t_MOST_ASKED)))
    {t_MOST_CALLS : Tok} (i_MOST_CALLS : PySem.W.nsIn K mainGlobals "MOST_CALLS" = some (some (.int 30 t_MOST_CALLS)))
    {t_MOST_LOOKS : Tok} (i_MOST_LOOKS : PySem.W.nsIn K mainGlobals "MOST_LOOKS" = some (some (.int 8 t_MOST_LOOKS)))
    {t_MOST_THINGS : Tok} (i_MOST_THINGS : PySem.W.nsIn K mainGlobals "MOST_THINGS" = some (some (.int 6 t_MOST_THINGS)))
    {t_WIDTH : Tok} (i_WIDTH : PySem.W.nsIn K mainGlobals "WIDTH" = some (some (.int 5 t_WIDTH)))
    : ∃ fd : FuncData, (∀ (s : Shared) (v : Value), BindsTo s fd ⟨[v], []⟩ [("script", v)]) ∧ ∀ base : Heap, K.In base → base.Ns mainGlobals mg → FnOk l.prog w K mg base CX0 19 fa fd ["script"] (spLaw K) := by
  have e := hfa.symm.trans (PySem.W.mg_of X G a36)
  cases e
  have T : Ft K mg := ⟨PySem.W.mg_none_of X G n_all, PySem.W.mg_none_of X G n_bool, PySem.W.mg_none_of X G n_enumerate, PySem.W.mg_none_of X G n_int, PySem.W.mg_none_of X G n_isinstance, PySem.W.mg_none_of X G n_len, PySem.W.mg_none_of X G n_list, PySem.W.mg_none_of X G n_range, PySem.W.mg_none_of X G n_sorted, PySem.W.mg_none_of X G n_tuple, PySem.W.mg_none_of X G n_zip, ⟨_, PySem.W.mg_of X G i_MOST_ASKED⟩, ⟨_, PySem.W.mg_of X G i_MOST_CALLS⟩, ⟨_, PySem.W.mg_of X G i_MOST_LOOKS⟩, ⟨_, PySem.W.mg_of X G i_MOST_THINGS⟩, ⟨_, PySem.W.mg_of X G i_WIDTH⟩⟩
  have D4 : Df K mg "is_whole" (top 4) ["thing"] := ⟨_, _, fun_mk (st := top 4) l4 c4 k4, PySem.W.mg_of X G a4, k4, (fun_mk (st := top 4) l4 c4 k4).binds fun _ _ _ _ _ _ us hl => match us, hl with | [_], _ => rfl⟩
  have D5 : Df K mg "is_from" (top 5) ["thing", "least", "most"] := ⟨_, _, fun_mk (st := top 5) l5 c5 k5, PySem.W.mg_of X G a5, k5, (fun_mk (st := top 5) l5 c5 k5).binds fun _ _ _ _ _ _ us hl => match us, hl with | [_, _, _], _ => rfl⟩
  have D12 : Df K mg "is_cells" (top 12) ["thing"] := ⟨_, _, fun_mk (st := top 12) l12 c12 k12, PySem.W.mg_of X G a12, k12, (fun_mk (st := top 12) l12 c12 k12).binds fun _ _ _ _ _ _ us hl => match us, hl with | [_], _ => rfl⟩
  have D33 : Df K mg "_law_draw" (top 33) ["cell", "k", "bound"] := ⟨_, _, fun_mk (st := top 33) l33 c33 k33, PySem.W.mg_of X G a33, k33, (fun_mk (st := top 33) l33 c33 k33).binds fun _ _ _ _ _ _ us hl => match us, hl with | [_, _, _], _ => rfl⟩
  have D34 : Df K mg "_law_number" (top 34) ["cell", "k", "bound"] := ⟨_, _, fun_mk (st := top 34) l34 c34 k34, PySem.W.mg_of X G a34, k34, (fun_mk (st := top 34) l34 c34 k34).binds fun _ _ _ _ _ _ us hl => match us, hl with | [_, _, _], _ => rfl⟩
  have D32 : Df K mg "_law_cell_at" (top 32) ["script", "k"] := ⟨_, _, fun_mk (st := top 32) l32 c32 k32, PySem.W.mg_of X G a32, k32, (fun_mk (st := top 32) l32 c32 k32).binds fun _ _ _ _ _ _ us hl => match us, hl with | [_, _], _ => rfl⟩
  have D35 : Df K mg "_law_next" (top 35) ["draw", "bound"] := ⟨_, _, fun_mk (st := top 35) l35 c35 k35, PySem.W.mg_of X G a35, k35, (fun_mk (st := top 35) l35 c35 k35).binds fun _ _ _ _ _ _ us hl => match us, hl with | [_, _], _ => rfl⟩
  have D13 : Df K mg "check_cells" (top 13) ["cells"] := ⟨_, _, fun_mk (st := top 13) l13 c13 k13, PySem.W.mg_of X G a13, k13, (fun_mk (st := top 13) l13 c13 k13).binds fun _ _ _ _ _ _ us hl => match us, hl with | [_], _ => rfl⟩
  have D6 : Df K mg "is_many" (top 6) ["thing", "many"] := ⟨_, _, fun_mk (st := top 6) l6 c6 k6, PySem.W.mg_of X G a6, k6, (fun_mk (st := top 6) l6 c6 k6).binds fun _ _ _ _ _ _ us hl => match us, hl with | [_, _], _ => rfl⟩
  have D14 : Df K mg "is_tally" (top 14) ["cells", "thing"] := ⟨_, _, fun_mk (st := top 14) l14 c14 k14, PySem.W.mg_of X G a14, k14, (fun_mk (st := top 14) l14 c14 k14).binds fun _ _ _ _ _ _ us hl => match us, hl with | [_, _], _ => rfl⟩
  have D18 : Df K mg "is_asking_to" (top 18) ["many", "thing", "deep"] := ⟨_, _, fun_mk (st := top 18) l18 c18 k18, PySem.W.mg_of X G a18, k18, (fun_mk (st := top 18) l18 c18 k18).binds fun _ _ _ _ _ _ us hl => match us, hl with | [_, _, _], _ => rfl⟩
  have D17 : Df K mg "is_asking" (top 17) ["many", "thing"] := ⟨_, _, fun_mk (st := top 17) l17 c17 k17, PySem.W.mg_of X G a17, k17, (fun_mk (st := top 17) l17 c17 k17).binds fun _ _ _ _ _ _ us hl => match us, hl with | [_, _], _ => rfl⟩
  have D7 : Df K mg "ascends" (top 7) ["things"] := ⟨_, _, fun_mk (st := top 7) l7 c7 k7, PySem.W.mg_of X G a7, k7, (fun_mk (st := top 7) l7 c7 k7).binds fun _ _ _ _ _ _ us hl => match us, hl with | [_], _ => rfl⟩
  have D8 : Df K mg "is_lot" (top 8) ["thing", "many"] := ⟨_, _, fun_mk (st := top 8) l8 c8 k8, PySem.W.mg_of X G a8, k8, (fun_mk (st := top 8) l8 c8 k8).binds fun _ _ _ _ _ _ us hl => match us, hl with | [_, _], _ => rfl⟩
  have D19 : Df K mg "is_seen_letters" (top 19) ["many", "thing"] := ⟨_, _, fun_mk (st := top 19) l19 c19 k19, PySem.W.mg_of X G a19, k19, (fun_mk (st := top 19) l19 c19 k19).binds fun _ _ _ _ _ _ us hl => match us, hl with | [_, _], _ => rfl⟩
  have D28 : Df K mg "is_calls" (top 28) ["thing"] := ⟨_, _, fun_mk (st := top 28) l28 c28 k28, PySem.W.mg_of X G a28, k28, (fun_mk (st := top 28) l28 c28 k28).binds fun _ _ _ _ _ _ us hl => match us, hl with | [_], _ => rfl⟩
  have D29 : Df K mg "check_calls" (top 29) ["calls", "room"] := ⟨_, _, fun_mk (st := top 29) l29 c29 k29, PySem.W.mg_of X G a29, k29, (fun_mk (st := top 29) l29 c29 k29).binds fun _ _ _ _ _ _ us hl => match us, hl with | [_, _], _ => rfl⟩
  have D30 : Df K mg "is_kept_row" (top 30) ["calls", "room", "thing"] := ⟨_, _, fun_mk (st := top 30) l30 c30 k30, PySem.W.mg_of X G a30, k30, (fun_mk (st := top 30) l30 c30 k30).binds fun _ _ _ _ _ _ us hl => match us, hl with | [_, _, _], _ => rfl⟩
  have D22 : Df K mg "is_look_counts" (top 22) ["thing"] := ⟨_, _, fun_mk (st := top 22) l22 c22 k22, PySem.W.mg_of X G a22, k22, (fun_mk (st := top 22) l22 c22 k22).binds fun _ _ _ _ _ _ us hl => match us, hl with | [_], _ => rfl⟩
  have D23 : Df K mg "check_look_counts" (top 23) ["looks"] := ⟨_, _, fun_mk (st := top 23) l23 c23 k23, PySem.W.mg_of X G a23, k23, (fun_mk (st := top 23) l23 c23 k23).binds fun _ _ _ _ _ _ us hl => match us, hl with | [_], _ => rfl⟩
  have D25 : Df K mg "is_search_in" (top 25) ["thing", "begin", "end"] := ⟨_, _, fun_mk (st := top 25) l25 c25 k25, PySem.W.mg_of X G a25, k25, (fun_mk (st := top 25) l25 c25 k25).binds fun _ _ _ _ _ _ us hl => match us, hl with | [_, _, _], _ => rfl⟩
  have D24 : Df K mg "is_search_tree" (top 24) ["looks", "thing"] := ⟨_, _, fun_mk (st := top 24) l24 c24 k24, PySem.W.mg_of X G a24, k24, (fun_mk (st := top 24) l24 c24 k24).binds fun _ _ _ _ _ _ us hl => match us, hl with | [_, _], _ => rfl⟩
  refine ⟨PySem.W.fnOf "law" "law" (defArgs (top 36)) (defBody (top 36)) (defScope (top 36)) .none kV36 dc36 pm36 an36 cd36 ct36, fun s v => .of_eq rfl, fun base _ _ => ?_⟩
  have C_is_whole := ok_is_whole (P := l.prog) (w := w) (base := base) D4 T 
  have C_is_from := ok_is_from (P := l.prog) (w := w) (base := base) D5 T C_is_whole
  have C_is_cells := ok_is_cells (P := l.prog) (w := w) (base := base) D12 T C_is_from
  have C__law_draw := ok__law_draw (P := l.prog) (w := w) (base := base) D33 T 
  have C__law_number := ok__law_number (P := l.prog) (w := w) (base := base) D34 T C__law_draw
  have C__law_cell_at := ok__law_cell_at (P := l.prog) (w := w) (base := base) D32 T 
  have C__law_next := ok__law_next (P := l.prog) (w := w) (base := base) D35 T C__law_number C__law_cell_at
  have C_check_cells := ok_check_cells (P := l.prog) (w := w) (base := base) D13 T C_is_cells
  have C_is_many := ok_is_many (P := l.prog) (w := w) (base := base) D6 T 
  have C_is_tally := ok_is_tally (P := l.prog) (w := w) (base := base) D14 T C_check_cells C_is_many C_is_from
  have C_is_asking_to := ok_is_asking_to (P := l.prog) (w := w) (base := base) D18 T C_is_many C_is_from 14
  have C_is_asking := ok_is_asking (P := l.prog) (w := w) (base := base) D17 T C_is_asking_to C_is_from
  have C_ascends := ok_ascends (P := l.prog) (w := w) (base := base) D7 T 
  have C_is_lot := ok_is_lot (P := l.prog) (w := w) (base := base) D8 T C_ascends C_is_from
  have C_is_seen_letters := ok_is_seen_letters (P := l.prog) (w := w) (base := base) D19 T C_is_from C_is_lot C_is_many
  have C_is_calls := ok_is_calls (P := l.prog) (w := w) (base := base) D28 T C_is_from
  have C_check_calls := ok_check_calls (P := l.prog) (w := w) (base := base) D29 T C_is_calls C_is_from
  have C_is_kept_row := ok_is_kept_row (P := l.prog) (w := w) (base := base) D30 T C_check_calls C_is_from
  have C_is_look_counts := ok_is_look_counts (P := l.prog) (w := w) (base := base) D22 T C_is_from
  have C_check_look_counts := ok_check_look_counts (P := l.prog) (w := w) (base := base) D23 T C_is_look_counts
  have C_is_search_in := ok_is_search_in (P := l.prog) (w := w) (base := base) D25 T C_is_many C_is_from 14
  have C_is_search_tree := ok_is_search_tree (P := l.prog) (w := w) (base := base) D24 T C_check_look_counts C_is_search_in
  exact ok_law (fun_mk (st := top 36) l36 c36 k36) T C_is_cells C__law_next C_is_tally C_is_asking C_is_seen_letters C_is_calls C_is_kept_row C_is_look_counts C_is_search_tree hT
end PX
open PySem PySem.W PyProof.Rows
set_option maxRecDepth 100000 in
set_option maxHeartbeats 0 in
theorem PySem.Challenge.cw_siftmarks_k75_new_shapes_holds : PySem.Challenge.rw_siftmarks_k75_new_shapes.Holds := by
  w_on; o_law; k_head; (case hw => w_witness2)
  k_fill
  refine PX.walkL (l := PySem.Challenge.rw_siftmarks_k75_new_shapes) (k := 19) rfl rfl ⟨rfl, by decide, by decide⟩ (fun w h Y => PySem.W.kIn_of Y) ?F
  case F =>
    intro w mg fa h KX G hmg
    refine' PX.all_mk PX.lawT KX G hmg ?a4 ?l4 ?c4 ?k4 ?a5 ?l5 ?c5 ?k5 ?a12 ?l12 ?c12 ?k12 ?a33 ?l33 ?c33 ?k33 ?a34 ?l34 ?c34 ?k34 ?a32 ?l32 ?c32 ?k32 ?a35 ?l35 ?c35 ?k35 ?a13 ?l13 ?c13 ?k13 ?a6 ?l6 ?c6 ?k6 ?a14 ?l14 ?c14 ?k14 ?a18 ?l18 ?c18 ?k18 ?a17 ?l17 ?c17 ?k17 ?a7 ?l7 ?c7 ?k7 ?a8 ?l8 ?c8 ?k8 ?a19 ?l19 ?c19 ?k19 ?a28 ?l28 ?c28 ?k28 ?a29 ?l29 ?c29 ?k29 ?a30 ?l30 ?c30 ?k30 ?a22 ?l22 ?c22 ?k22 ?a23 ?l23 ?c23 ?k23 ?a25 ?l25 ?c25 ?k25 ?a24 ?l24 ?c24 ?k24 ?a36 ?l36 ?c36 ?k36 ?n_all ?n_bool ?n_enumerate ?n_int ?n_isinstance ?n_len ?n_list ?n_range ?n_sorted ?n_tuple ?n_zip ?i_MOST_ASKED ?i_MOST_CALLS ?i_MOST_LOOKS ?i_MOST_THINGS ?i_WIDTH
    (case a4 => k_is)
    (case l4 => k_is)
    (case c4 => k_is)
    (case k4 => k_is)
    (case a5 => k_is)
    (case l5 => k_is)
    (case c5 => k_is)
    (case k5 => k_is)
    (case a12 => k_is)
    (case l12 => k_is)
    (case c12 => k_is)
    (case k12 => k_is)
    (case a33 => k_is)
    (case l33 => k_is)
    (case c33 => k_is)
    (case k33 => k_is)
    (case a34 => k_is)
    (case l34 => k_is)
    (case c34 => k_is)
    (case k34 => k_is)
    (case a32 => k_is)
    (case l32 => k_is)
    (case c32 => k_is)
    (case k32 => k_is)
    (case a35 => k_is)
    (case l35 => k_is)
    (case c35 => k_is)
    (case k35 => k_is)
    (case a13 => k_is)
    (case l13 => k_is)
    (case c13 => k_is)
    (case k13 => k_is)
    (case a6 => k_is)
    (case l6 => k_is)
    (case c6 => k_is)
    (case k6 => k_is)
    (case a14 => k_is)
    (case l14 => k_is)
    (case c14 => k_is)
    (case k14 => k_is)
    (case a18 => k_is)
    (case l18 => k_is)
    (case c18 => k_is)
    (case k18 => k_is)
    (case a17 => k_is)
    (case l17 => k_is)
    (case c17 => k_is)
    (case k17 => k_is)
    (case a7 => k_is)
    (case l7 => k_is)
    (case c7 => k_is)
    (case k7 => k_is)
    (case a8 => k_is)
    (case l8 => k_is)
    (case c8 => k_is)
    (case k8 => k_is)
    (case a19 => k_is)
    (case l19 => k_is)
    (case c19 => k_is)
    (case k19 => k_is)
    (case a28 => k_is)
    (case l28 => k_is)
    (case c28 => k_is)
    (case k28 => k_is)
    (case a29 => k_is)
    (case l29 => k_is)
    (case c29 => k_is)
    (case k29 => k_is)
    (case a30 => k_is)
    (case l30 => k_is)
    (case c30 => k_is)
    (case k30 => k_is)
    (case a22 => k_is)
    (case l22 => k_is)
    (case c22 => k_is)
    (case k22 => k_is)
    (case a23 => k_is)
    (case l23 => k_is)
    (case c23 => k_is)
    (case k23 => k_is)
    (case a25 => k_is)
    (case l25 => k_is)
    (case c25 => k_is)
    (case k25 => k_is)
    (case a24 => k_is)
    (case l24 => k_is)
    (case c24 => k_is)
    (case k24 => k_is)
    (case a36 => k_is)
    (case l36 => k_is)
    (case c36 => k_is)
    (case k36 => k_is)
    (case n_all => k_is)
    (case n_bool => k_is)
    (case n_enumerate => k_is)
    (case n_int => k_is)
    (case n_isinstance => k_is)
    (case n_len => k_is)
    (case n_list => k_is)
    (case n_range => k_is)
    (case n_sorted => k_is)
    (case n_tuple => k_is)
    (case n_zip => k_is)
    (case i_MOST_ASKED => k_is)
    (case i_MOST_CALLS => k_is)
    (case i_MOST_LOOKS => k_is)
    (case i_MOST_THINGS => k_is)
    (case i_WIDTH => k_is)
#print axioms PySem.Challenge.cw_siftmarks_k75_new_shapes_holds
