import PyProof.Rows.All
import Wide.All
import OpenK.AllK
import Wide.FinOn
import HandS.ForExc
import HandS.ForMost
import HandS.Wide
import HandS.ExcOwn
import HandS.TupAny
import HandS.TupMul
import KE.DataCmp
import KE.SortData
import HandS.TupLen
import HandS.IsInst
import HandS.EndBits
import HandS.Zip
import HandS.ExcIs
import KE.DataMinMax
import KE.DataFind
import HandS.Conv
import HandS.Deep
import HandS.Style
import HandS.Text
import HandS.SetFor
import KE.GoesEnum
import HandS.Iter
import HandS.RevTup
import HandS.Rev
import HandS.DictComp
import HandS.Set
import HandS.TupSets
import HandS.SetKeys
import HandS.SortKw
import HandS.DictSubView
import KE.KDictWalk
import KE.KEqDict
import PyProof.DictUpdate
import PyProof.FactsAll.dict_4
import KE.KDictPairs
import KE.KIndexOf
import PyProof.SeqIndex
import PyProof.FactsAll.tuple_0
import PyProof.FactsAll.tuple_2
import HandS.FStr
import PyProof.SumAny
import HandS.TryMany
import HandS.HeadHook3
import PySem.Challenge.RW_blurdesk_k20_heaps_apart
set_option Elab.async false
set_option linter.all false
set_option maxRecDepth 100000
set_option maxHeartbeats 4000000
/-! Plain data over the hand layer: values without addresses; lists and dicts by value, changed in place only through the one name that holds them. -/
namespace DL
open PySem PySem.Spec PyProof.Rows L2

/-- a value, whole -/
inductive D where
  | non
  | bl (b : Bool)
  | int (i : Int)
  | str (x : Str)
  | obj (v : V)
  | tup (xs : List D)
  | con (xs : List D)
  | lst (xs : List D)
  | dct (t : Bool) (kvs : List (D × D))

/-- what comes of a reckoning -/
inductive Res (α : Type) where
  | ok (a : α)
  | exc (c : String) (fs : List D)
  | bad

def Res.bind {α β : Type} (r : Res α) (f : α → Res β) : Res β := match r with
  | .ok a => f a
  | .exc c fs => .exc c fs
  | .bad => .bad
@[simp] theorem Res.bind_ok {α β : Type} (a : α) (f : α → Res β) : (Res.ok a).bind f = f a := Eq.trans rfl rfl
@[simp] theorem Res.bind_exc {α β : Type} (c : String) (fs : List D) (f : α → Res β) : (Res.exc c fs : Res α).bind f = .exc c fs := Eq.trans rfl rfl
@[simp] theorem Res.bind_bad {α β : Type} (f : α → Res β) : (Res.bad : Res α).bind f = .bad := Eq.trans rfl rfl

/-- keys of dicts -/
def keyD : Key → D
  | .inl i => .int i
  | .inr x => .str x
def keyT (k : List Key) : D := .tup (k.map keyD)

/-- a tuple without a dict of its own -/
def PlT (K : PySem.W.Frag) (G : Hp) (a : Addr) (xs : List V) : Prop :=
  (∃ o, G a = some (.frz o (.tup xs)) ∧ o.dict = none) ∨
    ∃ (o : Obj) (its : Array Value) (n : Nat), K.lookup a = some o ∧ o.cls = .type "tuple" ∧ o.dict = none ∧ o.data = .seq its n ∧ its.size ≤ sizeLine ∧ Vals xs its.toList
theorem PlT.sqt {K : PySem.W.Frag} {G : Hp} {a : Addr} {xs : List V} (h : PlT K G a xs) : SqT K G a xs := by
  rcases h with ⟨o, h, _⟩ | ⟨o, its, n, h1, h2, _, h3, h4, h5⟩
  · exact .inl (.inr ⟨o, h⟩)
  · exact .inr ⟨o, its, n, h1, h2, h3, h4, h5⟩

mutual
/-- the value v is the data d, over the heap's part G -/
def Rep (K : PySem.W.Frag) (G : Hp) : D → V → Prop
  | .non, v => v = .non
  | .bl b, v => v = .bl b
  | .int i, v => v = .int i
  | .str x, v => v = .str x
  | .obj u, v => v = u
  | .tup ds, v => ∃ a vs, v = .ref a ∧ G a = some (.tup vs) ∧ RepL K G ds vs
  | .con ds, v => ∃ a vs, v = .ref a ∧ PlT K G a vs ∧ RepL K G ds vs
  | .lst ds, v => ∃ a vs, v = .ref a ∧ SqL K G a vs ∧ RepL K G ds vs
  | .dct t kvs, v => ∃ a, v = .ref a ∧ ((t = false ∧ ∃ od ps, G a = some (.frz od (.dK ps)) ∧ kvs.map (·.1) = ps.map (fun p => keyD p.1) ∧ RepV K G kvs (ps.map (·.2))) ∨
      (t = true ∧ ∃ od ps, G a = some (.frz od (.dT ps)) ∧ kvs.map (·.1) = ps.map (fun p => keyT p.1) ∧ RepV K G kvs (ps.map (·.2))))
def RepL (K : PySem.W.Frag) (G : Hp) : List D → List V → Prop
  | [], vs => vs = []
  | d :: ds, vs => ∃ v r, vs = v :: r ∧ Rep K G d v ∧ RepL K G ds r
def RepV (K : PySem.W.Frag) (G : Hp) : List (D × D) → List V → Prop
  | [], vs => vs = []
  | (_, d) :: r, vs => ∃ v r', vs = v :: r' ∧ Rep K G d v ∧ RepV K G r r'
end

/-- the part G lies in H -/
def Sub (G H : Hp) : Prop := ∀ b o, G b = some o → H b = some o
theorem Sub.refl (H : Hp) : Sub H H := fun _ _ e => e
theorem Sub.trans {A B C : Hp} (h : Sub A B) (k : Sub B C) : Sub A C := fun b o e => k b o (h b o e)
theorem Sub.rd {G H : Hp} (h : Sub G H) {a : Addr} {u : HO} (r : Rd G a u) : Rd H a u := by
  rcases r with r | ⟨o, r⟩
  · exact .inl (h _ _ r)
  · exact .inr ⟨o, h _ _ r⟩
theorem Sub.sql {K : PySem.W.Frag} {G H : Hp} (h : Sub G H) {a : Addr} {xs : List V} (r : SqL K G a xs) : SqL K H a xs := by
  rcases r with r | r
  · exact .inl (h.rd r)
  · exact .inr r
theorem Sub.sqt {K : PySem.W.Frag} {G H : Hp} (h : Sub G H) {a : Addr} {xs : List V} (r : SqT K G a xs) : SqT K H a xs := by
  rcases r with r | r
  · exact .inl (h.rd r)
  · exact .inr r
theorem Sub.plt {K : PySem.W.Frag} {G H : Hp} (h : Sub G H) {a : Addr} {xs : List V} (r : PlT K G a xs) : PlT K H a xs := by
  rcases r with ⟨o, r, d⟩ | r
  · exact .inl ⟨o, h _ _ r, d⟩
  · exact .inr r
theorem Sub.pt {K : PySem.W.Frag} {G H : Hp} (h : Sub G H) {a : Addr} {xs : List V} (r : G a = some (.tup xs)) : SqT K H a xs := SqT.of (h a _ r)
theorem Sub.upd {H : Hp} {a : Addr} {o : HO} (h : H a = none) : Sub H (upd H a o) := fun b u e => by
  rw [upd_ne (ne_of_none e h)]; exact e
theorem Sub.free {G H : Hp} (h : Sub G H) {a : Addr} (e : H a = none) : G a = none := by
  cases q : G a with
  | none => rfl
  | some o => rw [h _ _ q] at e; cases e

mutual
theorem Rep.mono {K : PySem.W.Frag} {G H : Hp} (h : Sub G H) : ∀ {d : D} {v : V}, Rep K G d v → Rep K H d v
  | .non, _, e => e
  | .bl _, _, e => e
  | .int _, _, e => e
  | .str _, _, e => e
  | .obj _, _, e => e
  | .tup _, _, ⟨a, vs, e, s, r⟩ => ⟨a, vs, e, h a _ s, RepL.mono h r⟩
  | .con _, _, ⟨a, vs, e, s, r⟩ => ⟨a, vs, e, h.plt s, RepL.mono h r⟩
  | .lst _, _, ⟨a, vs, e, s, r⟩ => ⟨a, vs, e, h.sql s, RepL.mono h r⟩
  | .dct _ _, _, ⟨a, e, .inl ⟨t0, od, ps, s, k, r⟩⟩ => ⟨a, e, .inl ⟨t0, od, ps, h a _ s, k, RepV.mono h r⟩⟩
  | .dct _ _, _, ⟨a, e, .inr ⟨t0, od, ps, s, k, r⟩⟩ => ⟨a, e, .inr ⟨t0, od, ps, h a _ s, k, RepV.mono h r⟩⟩
theorem RepL.mono {K : PySem.W.Frag} {G H : Hp} (h : Sub G H) : ∀ {ds : List D} {vs : List V}, RepL K G ds vs → RepL K H ds vs
  | [], _, e => e
  | _ :: _, _, ⟨v, r, e, x, y⟩ => ⟨v, r, e, Rep.mono h x, RepL.mono h y⟩
theorem RepV.mono {K : PySem.W.Frag} {G H : Hp} (h : Sub G H) : ∀ {ds : List (D × D)} {vs : List V}, RepV K G ds vs → RepV K H ds vs
  | [], _, e => e
  | (_, _) :: _, _, ⟨v, r, e, x, y⟩ => ⟨v, r, e, Rep.mono h x, RepV.mono h y⟩
end

section
variable {K : PySem.W.Frag} {G : Hp}
theorem RepL.nil : RepL K G [] [] := rfl
theorem RepL.cons {d : D} {v : V} {ds : List D} {vs : List V} (h : Rep K G d v) (t : RepL K G ds vs) : RepL K G (d :: ds) (v :: vs) := ⟨v, vs, rfl, h, t⟩
theorem RepL.length : ∀ {ds : List D} {vs : List V}, RepL K G ds vs → vs.length = ds.length
  | [], _, e => by rw [show _ = [] from e]; rfl
  | _ :: _, _, ⟨v, r, e, x, y⟩ => by rw [e, List.length_cons, List.length_cons, RepL.length y]
theorem RepL.get : ∀ {ds : List D} {vs : List V} {i : Nat} {d : D}, RepL K G ds vs → ds[i]? = some d → ∃ v, vs[i]? = some v ∧ Rep K G d v
  | _ :: _, _, 0, _, ⟨v, r, e, x, y⟩, h => by cases h; exact ⟨v, by rw [e]; rfl, x⟩
  | _ :: _, _, i + 1, d, ⟨v, r, e, x, y⟩, h => by
    obtain ⟨w, h1, h2⟩ := RepL.get (i := i) (d := d) y (by simpa using h)
    exact ⟨w, by rw [e]; simpa using h1, h2⟩
theorem RepL.get' : ∀ {ds : List D} {vs : List V} {i : Nat} {v : V}, RepL K G ds vs → vs[i]? = some v → ∃ d, ds[i]? = some d ∧ Rep K G d v
  | [], _, i, v, e, h => by rw [show _ = [] from e] at h; simp at h
  | d :: _, _, 0, v, ⟨w, r, e, x, y⟩, h => by rw [e] at h; cases h; exact ⟨d, rfl, x⟩
  | _ :: _, _, i + 1, v, ⟨w, r, e, x, y⟩, h => by
    rw [e] at h
    obtain ⟨d, h1, h2⟩ := RepL.get' (i := i) (v := v) y (by simpa using h)
    exact ⟨d, by simpa using h1, h2⟩
theorem RepL.append : ∀ {ds es : List D} {vs ws : List V}, RepL K G ds vs → RepL K G es ws → RepL K G (ds ++ es) (vs ++ ws)
  | [], _, _, _, e, t => by rw [show _ = [] from e]; exact t
  | _ :: _, _, _, _, ⟨v, r, e, x, y⟩, t => by rw [e]; exact ⟨v, _, rfl, x, RepL.append y t⟩
theorem RepL.drop : ∀ {ds : List D} {vs : List V} (n : Nat), RepL K G ds vs → RepL K G (ds.drop n) (vs.drop n)
  | _, _, 0, h => h
  | [], _, n + 1, e => by rw [show _ = [] from e]; rfl
  | _ :: _, _, n + 1, ⟨v, r, e, x, y⟩ => by rw [e]; exact RepL.drop n y
theorem RepL.take : ∀ {ds : List D} {vs : List V} (n : Nat), RepL K G ds vs → RepL K G (ds.take n) (vs.take n)
  | _, _, 0, h => rfl
  | [], _, n + 1, e => by rw [show _ = [] from e]; rfl
  | _ :: _, _, n + 1, ⟨v, r, e, x, y⟩ => by rw [e]; exact ⟨v, _, rfl, x, RepL.take n y⟩
theorem RepL.set {d : D} {v : V} (h : Rep K G d v) : ∀ {ds : List D} {vs : List V} (n : Nat), RepL K G ds vs → RepL K G (ds.set n d) (vs.set n v)
  | [], _, n, e => by rw [show _ = [] from e]; rfl
  | _ :: _, _, 0, ⟨w, r, e, x, y⟩ => by rw [e]; exact ⟨v, r, rfl, h, y⟩
  | _ :: _, _, n + 1, ⟨w, r, e, x, y⟩ => by rw [e]; exact ⟨w, _, rfl, x, RepL.set h n y⟩
theorem RepL.ints : ∀ {ns : List Int} {vs : List V}, RepL K G (ns.map D.int) vs → vs = ns.map V.int
  | [], _, e => e
  | _ :: _, _, ⟨v, r, e, x, y⟩ => by rw [e, show v = _ from x, RepL.ints y]; rfl
theorem RepL.of_ints : ∀ (ns : List Int), RepL K G (ns.map D.int) (ns.map V.int)
  | [] => rfl
  | n :: ns => ⟨_, _, rfl, rfl, RepL.of_ints ns⟩
theorem RepL.bls : ∀ {ns : List Bool} {vs : List V}, RepL K G (ns.map D.bl) vs → vs = ns.map V.bl
  | [], _, e => e
  | _ :: _, _, ⟨v, r, e, x, y⟩ => by rw [e, show v = _ from x, RepL.bls y]; rfl
theorem Rep.tup {a : Addr} {ds : List D} {vs : List V} (h : G a = some (.tup vs)) (r : RepL K G ds vs) : Rep K G (.tup ds) (.ref a) := ⟨a, vs, rfl, h, r⟩
theorem Rep.lst {a : Addr} {ds : List D} {vs : List V} (h : SqL K G a vs) (r : RepL K G ds vs) : Rep K G (.lst ds) (.ref a) := ⟨a, vs, rfl, h, r⟩
end

def D.isDct : D → Bool
  | .dct _ _ => true
  | _ => false
/-- a value whose outer list or dict is read in H, its items in G -/
def RepC (K : PySem.W.Frag) (H G : Hp) : D → V → Prop
  | .lst ds, v => ∃ a vs, v = .ref a ∧ SqL K H a vs ∧ RepL K G ds vs
  | .dct t kvs, v => ∃ a, v = .ref a ∧ ((t = false ∧ ∃ ps, Rd H a (.dK ps) ∧ kvs.map (·.1) = ps.map (fun p => keyD p.1) ∧ RepV K G kvs (ps.map (·.2))) ∨
      (t = true ∧ ∃ ps, Rd H a (.dT ps) ∧ kvs.map (·.1) = ps.map (fun p => keyT p.1) ∧ RepV K G kvs (ps.map (·.2))))
  | d, v => Rep K G d v
theorem Rep.c {K : PySem.W.Frag} {G H : Hp} (h : Sub G H) : ∀ {d : D} {v : V}, Rep K G d v → RepC K H G d v
  | .non, _, e => e
  | .bl _, _, e => e
  | .int _, _, e => e
  | .str _, _, e => e
  | .obj _, _, e => e
  | .tup _, _, e => e
  | .con _, _, e => e
  | .lst _, _, ⟨a, vs, e, s, r⟩ => ⟨a, vs, e, h.sql s, r⟩
  | .dct _ _, _, ⟨a, e, .inl ⟨t0, od, ps, s, k, r⟩⟩ => ⟨a, e, .inl ⟨t0, ps, .inr ⟨od, h a _ s⟩, k, r⟩⟩
  | .dct _ _, _, ⟨a, e, .inr ⟨t0, od, ps, s, k, r⟩⟩ => ⟨a, e, .inr ⟨t0, ps, .inr ⟨od, h a _ s⟩, k, r⟩⟩
theorem RepC.all {K : PySem.W.Frag} {G H : Hp} (h : Sub G H) : ∀ {d : D} {v : V}, RepC K H G d v → d.isDct = false → Rep K H d v
  | .non, _, e, _ => e
  | .bl _, _, e, _ => e
  | .int _, _, e, _ => e
  | .str _, _, e, _ => e
  | .obj _, _, e, _ => e
  | .tup _, _, e, _ => Rep.mono h e
  | .con _, _, e, _ => Rep.mono h e
  | .lst _, _, ⟨a, vs, e, s, r⟩, _ => ⟨a, vs, e, s, RepL.mono h r⟩
  | .dct _ _, _, _, n => by cases n
theorem RepC.mono {K : PySem.W.Frag} {G H G' H' : Hp} (h : Sub H H') (g : Sub G G') : ∀ {d : D} {v : V}, RepC K H G d v → RepC K H' G' d v
  | .non, _, e => e
  | .bl _, _, e => e
  | .int _, _, e => e
  | .str _, _, e => e
  | .obj _, _, e => e
  | .tup _, _, e => Rep.mono g e
  | .con _, _, e => Rep.mono g e
  | .lst _, _, ⟨a, vs, e, s, r⟩ => ⟨a, vs, e, h.sql s, RepL.mono g r⟩
  | .dct _ _, _, ⟨a, e, .inl ⟨t0, ps, s, k, r⟩⟩ => ⟨a, e, .inl ⟨t0, ps, h.rd s, k, RepV.mono g r⟩⟩
  | .dct _ _, _, ⟨a, e, .inr ⟨t0, ps, s, k, r⟩⟩ => ⟨a, e, .inr ⟨t0, ps, h.rd s, k, RepV.mono g r⟩⟩

/-- at a stands the list or dict d, that can be changed; its items in G -/
def OwnC (K : PySem.W.Frag) (H G : Hp) : D → Addr → Prop
  | .lst ds, a => ∃ vs, H a = some (.lst vs) ∧ RepL K G ds vs
  | .dct t kvs, a => (t = false ∧ ∃ ps, H a = some (.dK ps) ∧ kvs.map (·.1) = ps.map (fun p => keyD p.1) ∧ RepV K G kvs (ps.map (·.2))) ∨
      (t = true ∧ ∃ ps, H a = some (.dT ps) ∧ kvs.map (·.1) = ps.map (fun p => keyT p.1) ∧ RepV K G kvs (ps.map (·.2)))
  | _, _ => False
theorem OwnC.c {K : PySem.W.Frag} {H G : Hp} {d : D} {a : Addr} (h : OwnC K H G d a) : RepC K H G d (.ref a) := by
  cases d with
  | lst ds => obtain ⟨vs, e, r⟩ := h; exact ⟨a, vs, rfl, SqL.of e, r⟩
  | dct t kvs =>
    rcases h with ⟨t0, ps, e, k, r⟩ | ⟨t0, ps, e, k, r⟩
    · exact ⟨a, rfl, .inl ⟨t0, ps, .inl e, k, r⟩⟩
    · exact ⟨a, rfl, .inr ⟨t0, ps, .inl e, k, r⟩⟩
  | _ => exact h.elim
theorem OwnC.is {K : PySem.W.Frag} {H G : Hp} {d : D} {a : Addr} (h : OwnC K H G d a) : H a ≠ none := by
  cases d with
  | lst ds => obtain ⟨vs, e, r⟩ := h; rw [e]; simp
  | dct t kvs => rcases h with ⟨t0, ps, e, k, r⟩ | ⟨t0, ps, e, k, r⟩ <;> rw [e] <;> simp
  | _ => exact h.elim
theorem OwnC.mono' {K : PySem.W.Frag} {H H' G G' : Hp} {d : D} {a : Addr} (h : OwnC K H G d a) (e' : ∀ o, H a = some o → H' a = some o) (sg : Sub G G') : OwnC K H' G' d a := by
  cases d with
  | lst ds => obtain ⟨vs, e, r⟩ := h; exact ⟨vs, e' _ e, r.mono sg⟩
  | dct t kvs =>
    rcases h with ⟨t0, ps, e, k, r⟩ | ⟨t0, ps, e, k, r⟩
    · exact .inl ⟨t0, ps, e' _ e, k, r.mono sg⟩
    · exact .inr ⟨t0, ps, e' _ e, k, r.mono sg⟩
  | _ => exact h.elim
theorem OwnC.mono {K : PySem.W.Frag} {H H' G G' : Hp} {d : D} {a : Addr} (h : OwnC K H G d a) (sh : Sub H H') (sg : Sub G G') : OwnC K H' G' d a := h.mono' (fun o => sh a o) sg
theorem OwnC.put {K : PySem.W.Frag} {H G G' : Hp} {d : D} {a : Addr} (h : OwnC K H G d a) (nd : d.isDct = false) (sg : Sub G G') (e' : G' a = H a) : Rep K G' d (.ref a) := by
  cases d with
  | lst ds => obtain ⟨vs, e, r⟩ := h; exact ⟨a, vs, rfl, SqL.of (e'.trans e), r.mono sg⟩
  | dct t kvs => cases nd
  | _ => exact h.elim
/-- a dict that is locked is all men's -/
theorem OwnC.lock {K : PySem.W.Frag} {H G G' : Hp} {d : D} {a : Addr} (h : OwnC K H G d a) (nd : d.isDct = true) (sg : Sub G G') : ∃ u, H a = some u ∧ Mut (some u) ∧ ∀ od, G' a = some (.frz od u) → Rep K G' d (.ref a) := by
  cases d with
  | dct t kvs =>
    rcases h with ⟨t0, ps, e, k, r⟩ | ⟨t0, ps, e, k, r⟩
    · exact ⟨_, e, trivial, fun od q => ⟨a, rfl, .inl ⟨t0, od, ps, q, k, r.mono sg⟩⟩⟩
    · exact ⟨_, e, trivial, fun od q => ⟨a, rfl, .inr ⟨t0, od, ps, q, k, r.mono sg⟩⟩⟩
  | _ => cases nd
/-- things are locked, then P -/
inductive LockT (P : Hp → Prop) : Hp → Prop where
  | here {H : Hp} (h : P H) : LockT P H
  | lock {H : Hp} {d : Addr} {u : HO} (h : H d = some u) (mu : Mut (some u)) (k : ∀ od, LockT P (upd H d (.frz od u))) : LockT P H
theorem LockT.imp {P Q : Hp → Prop} {H : Hp} (h : LockT P H) (f : ∀ H, P H → Q H) : LockT Q H := by
  induction h with
  | here h => exact .here (f _ h)
  | lock h mu _ ih => exact .lock h mu ih
theorem LockT.bind {P Q : Hp → Prop} {H : Hp} (h : LockT P H) (f : ∀ H, P H → LockT Q H) : LockT Q H := by
  induction h with
  | here h => exact f _ h
  | lock h mu _ ih => exact .lock h mu ih
theorem LockT.inv {X : Cx} {pins : List (Addr × Obj)} {σ : L2.St} {s : Shared} {P : Hp → Prop} {H : Hp} (h : LockT P H) (I : Inv X pins σ H s) : ∃ H', Inv X pins σ H' s ∧ P H' := by
  induction h with
  | here h => exact ⟨_, I, h⟩
  | lock h mu _ ih =>
    obtain ⟨od, I1⟩ := I.lock h mu
    exact ih od I1
theorem _root_.L2.PE.lk {X : Cx} {e : Expr} {t t' : TE} (h : PE X e t) (f : ∀ σ H Q, t' σ H Q → LockT (fun H => t σ H Q) H) : PE X e t' := ⟨fun pins s σ H Q I q => by
  obtain ⟨H', I', q'⟩ := (f σ H Q q).inv I
  exact h.run pins s σ H' Q I' q'⟩
theorem _root_.L2.PE.lkP {X : Cx} {e : Expr} {t t' : TE} (h : PE X e t) (f : ∀ σ H Q, t' σ H Q → t σ H fun v H => LockT (Q v) H) : PE X e t' := ⟨fun pins s σ H Q I q =>
  thn (h.run pins s σ H _ I (f σ H Q q)) fun v s1 ⟨x, H1, I1, r, q⟩ => by
    obtain ⟨H2, I2, q2⟩ := q.inv I1
    exact ⟨x, H2, I2, r, q2⟩⟩
theorem _root_.L2.PS.lk {X : Cx} {e : Stmt} {t t' : TS} (h : PS X e t) (f : ∀ D σ H, t' D σ H → LockT (t D σ) H) : PS X e t' := ⟨fun pins s σ H D I q => by
  obtain ⟨H', I', q'⟩ := (f D σ H q).inv I
  exact h.run pins s σ H' D I' q'⟩
theorem _root_.L2.PSs.lk {X : Cx} {e : List Stmt} {t t' : TS} (h : PSs X e t) (f : ∀ D σ H, t' D σ H → LockT (t D σ) H) : PSs X e t' := ⟨fun pins s σ H D I q => by
  obtain ⟨H', I', q'⟩ := (f D σ H q).inv I
  exact h.run pins s σ H' D I' q'⟩
/-- .. what is given back is locked -/
theorem _root_.L2.PSs.lkR {X : Cx} {e : List Stmt} {t t' : TS} (h : PSs X e t) (f : ∀ D σ H, t' D σ H → t { D with rt := fun v H => LockT (D.rt v) H } σ H) : PSs X e t' := ⟨fun pins s σ H D I q =>
  thn (h.run pins s σ H _ I (f D σ H q)) fun fl s1 q => by
    cases fl with
    | next => exact q
    | brk => exact q
    | cont => exact q
    | ret v =>
      obtain ⟨x, σ', H', I2, r, q⟩ := q
      obtain ⟨H2, I3, q2⟩ := q.inv I2
      exact ⟨x, σ', H2, I3, r, q2⟩⟩

/-- where nothing stood, or a tuple -/
def Fr1 (H : Hp) (b : Addr) : Prop := H b = none ∨ ∃ vs, H b = some (.tup vs)
theorem Fr1.back {H H1 : Hp} {b : Addr} (s : Sub H H1) (h : Fr1 H1 b) : Fr1 H b := by
  cases q : H b with
  | none => exact .inl q
  | some o =>
    have := s _ _ q
    rcases h with h | ⟨vs, h⟩
    · rw [h] at this; cases this
    · rw [h] at this; cases this; exact .inr ⟨vs, q⟩
theorem OwnC.nfr {K : PySem.W.Frag} {H G : Hp} {d : D} {a : Addr} (h : OwnC K H G d a) : ¬ Fr1 H a := by
  intro z
  cases d with
  | lst ds =>
    obtain ⟨vs, e, r⟩ := h
    rcases z with z | ⟨ws, z⟩ <;> rw [e] at z <;> cases z
  | dct t kvs => rcases h with ⟨t0, ps, e, k, r⟩ | ⟨t0, ps, e, k, r⟩ <;> rcases z with z | ⟨ws, z⟩ <;> rw [e] at z <;> cases z
  | _ => exact h.elim
/-- behind a step: H to H', the part G to G' -/
structure Ext (H G H' G' : Hp) : Prop where
  hh : Sub H H'
  gg : Sub G G'
  gh : Sub G' H'
  new : ∀ b, G' b ≠ none → G b ≠ none ∨ Fr1 H b
theorem Ext.refl {H G : Hp} (g : Sub G H) : Ext H G H G := ⟨Sub.refl H, Sub.refl G, g, fun _ h => .inl h⟩
theorem Ext.trans {H G H1 G1 H2 G2 : Hp} (a : Ext H G H1 G1) (b : Ext H1 G1 H2 G2) : Ext H G H2 G2 :=
  ⟨a.hh.trans b.hh, a.gg.trans b.gg, b.gh, fun c h => by
    rcases b.new c h with z | z
    · exact a.new c z
    · exact .inr (z.back a.hh)⟩
/-- a new object that all may know -/
theorem Ext.laid {H G : Hp} {p : Addr} {o : HO} (g : Sub G H) (n : H p = none) : Ext H G (upd H p o) (upd G p o) :=
  ⟨Sub.upd n, Sub.upd (g.free n), fun b u e => by
    by_cases hb : b = p
    · subst hb; rw [upd_same] at e ⊢; exact e
    · rw [upd_ne hb] at e ⊢; exact g _ _ e, fun b h => by
    by_cases hb : b = p
    · subst hb; exact .inr (.inl n)
    · rw [upd_ne hb] at h; exact .inl h⟩

/-! ### exceptions -/
/-- which class value a class's name has; its fields' values -/
structure ExcKit where
  mg : Str → Option Value
def IsExc (K : PySem.W.Frag) (mg : Str → Option Value) (c : String) (fs : List D) (cls : Value) (o : Option Addr) (H : Hp) : Prop :=
  mg (Str.ofString c) = some cls ∧ match o with
    | none => fs = []
    | some d => fs ≠ [] ∧ ∃ ps, H d = some (.xd ps) ∧ RepL K H fs (ps.map (·.2))

/-! ### names -/
abbrev Sl := Option (D × Bool)
abbrev Env := List Sl
/-- the names' values, as a reckoning sees them: those at A may be kept -/
structure EnvG (K : PySem.W.Frag) (A : Nat → Prop) (σ : L2.St) (e : Env) (H G : Hp) : Prop where
  sub : Sub G H
  len : σ.length = e.length
  val : ∀ i d o, e[i]? = some (some (d, o)) → ∃ v, σ[i]? = some (some v) ∧ (A i ∨ o = false → Rep K G d v) ∧ RepC K H G d v
theorem EnvG.ext {K : PySem.W.Frag} {A : Nat → Prop} {σ : L2.St} {e : Env} {H G H' G' : Hp} (h : EnvG K A σ e H G) (x : Ext H G H' G') : EnvG K A σ e H' G' :=
  ⟨x.gh, h.len, fun i d o hi => let ⟨v, h1, h2, h3⟩ := h.val i d o hi; ⟨v, h1, fun z => (h2 z).mono x.gg, h3.mono x.hh x.gg⟩⟩

/-- what is wanted behind a reckoning -/
def PostG (K : PySem.W.Frag) (mg : Str → Option Value) (W : Value → Option Addr → Hp → Prop) (H G : Hp) {α : Type} (r : Res α) (R : α → Hp → Hp → Prop) : Prop := match r with
  | .ok a => ∀ H' G', Ext H G H' G' → R a H' G'
  | .exc c fs => ∀ cls o H', Sub H H' → IsExc K mg c fs cls o H' → W cls o H'
  | .bad => False
section
variable {K : PySem.W.Frag} {mg : Str → Option Value} {W : Value → Option Addr → Hp → Prop} {H G H' G' : Hp} {α β : Type}
theorem PostG.ext {r : Res α} {R : α → Hp → Hp → Prop} (h : PostG K mg W H G r R) (x : Ext H G H' G') : PostG K mg W H' G' r R := by
  cases r with
  | ok a => exact fun H2 G2 y => h H2 G2 (x.trans y)
  | exc c fs => exact fun cls o H2 y z => h cls o H2 (x.hh.trans y) z
  | bad => exact h
theorem PostG.imp {r : Res α} {R R' : α → Hp → Hp → Prop} (h : PostG K mg W H G r R) (f : ∀ a H' G', Ext H G H' G' → R a H' G' → R' a H' G') : PostG K mg W H G r R' := by
  cases r with
  | ok a => exact fun H2 G2 y => f a H2 G2 y (h H2 G2 y)
  | exc c fs => exact h
  | bad => exact h
theorem PostG.split {r : Res α} {f : α → Res β} {R : β → Hp → Hp → Prop} (h : PostG K mg W H G (r.bind f) R) : PostG K mg W H G r fun a H1 G1 => PostG K mg W H1 G1 (f a) R := by
  cases r with
  | ok a => exact fun H2 G2 y => PostG.ext (r := f a) h y
  | exc c fs => exact h
  | bad => exact h
theorem PostG.val {d : D} {Q : VK} (h : PostG K mg W H G (Res.ok d) fun d H' G' => ∀ v, Rep K G' d v → Q v H') (g : Sub G H) {v : V} (r : Rep K G d v) : Q v H := h H G (Ext.refl g) v r
theorem PostG.here {a : α} {R : α → Hp → Hp → Prop} (h : PostG K mg W H G (.ok a) R) (g : Sub G H) : R a H G := h H G (Ext.refl g)
end

theorem _root_.L2.PE.imp {X : Cx} {e : Expr} {t t' : TE} (h : PE X e t) (f : ∀ σ H Q, t' σ H Q → t σ H Q) : PE X e t' := ⟨fun pins s σ H Q I q => h.run pins s σ H Q I (f σ H Q q)⟩
theorem _root_.L2.PA.imp {X : Cx} {e : List Expr} {t t' : TA} (h : PA X e t) (f : ∀ σ H Q, t' σ H Q → t σ H Q) : PA X e t' := ⟨fun pos pins s σ H Q I q => h.run pos pins s σ H Q I (f σ H Q q)⟩
theorem _root_.L2.PT.imp {X : Cx} {e : Expr} {t t' : TT} (h : PT X e t) (f : ∀ σ H Q, t' σ H Q → t σ H Q) : PT X e t' := ⟨fun pins s σ H Q I q => h.run pins s σ H Q I (f σ H Q q)⟩
theorem _root_.L2.PW.imp {X : Cx} {e : Expr} {t t' : TT} (h : PW X e t) (f : ∀ σ H Q, t' σ H Q → t σ H Q) : PW X e t' := ⟨fun wh pins s σ H Q I q => h.run wh pins s σ H Q I (f σ H Q q)⟩
theorem _root_.L2.PS.imp {X : Cx} {e : Stmt} {t t' : TS} (h : PS X e t) (f : ∀ D σ H, t' D σ H → t D σ H) : PS X e t' := ⟨fun pins s σ H D I q => h.run pins s σ H D I (f D σ H q)⟩
theorem _root_.L2.PSs.imp {X : Cx} {e : List Stmt} {t t' : TS} (h : PSs X e t) (f : ∀ D σ H, t' D σ H → t D σ H) : PSs X e t' := ⟨fun pins s σ H D I q => h.run pins s σ H D I (f D σ H q)⟩
theorem _root_.L2.PI.imp {X : Cx} {tg e : Expr} {t t' : TI} (h : PI X tg e t) (f : ∀ σ H Q, t' σ H Q → t σ H Q) : PI X tg e t' := ⟨fun pins s σ H Q I q => h.run pins s σ H Q I (f σ H Q q)⟩

/-! ### the readings -/
section
variable (K : PySem.W.Frag) (mg : Str → Option Value) (W : WX) (A : Nat → Prop)
/-- a reckoning's value, kept by whoever has it -/
def tD (f : Env → Res D) : TE := fun σ H Q => ∃ e G, EnvG K A σ e H G ∧ PostG K mg (fun c o H' => W c o σ H') H G (f e) fun d H' G' => ∀ v, Rep K G' d v → Q v H'
/-- .. read alone -/
def tR (f : Env → Res D) : TE := fun σ H Q => ∃ e G, EnvG K A σ e H G ∧ PostG K mg (fun c o H' => W c o σ H') H G (f e) fun d H' G' => ∀ v, RepC K H' G' d v → Q v H'
/-- .. new, and of none else -/
def tF (f : Env → Res D) : TE := fun σ H Q => ∃ e G, EnvG K A σ e H G ∧ PostG K mg (fun c o H' => W c o σ H') H G (f e) fun d H' G' => ∀ a, H a = none → G' a = none → OwnC K H' G' d a → Q (.ref a) H'
def tDs (f : Env → Res (List D)) : TA := fun σ H Q => ∃ e G, EnvG K A σ e H G ∧ PostG K mg (fun c o H' => W c o σ H') H G (f e) fun ds H' G' => ∀ vs, RepL K G' ds vs → Q vs H'
def tT (f : Env → Res Bool) : TT := fun σ H Q => ∃ e G, EnvG K A σ e H G ∧ PostG K mg (fun c o H' => W c o σ H') H G (f e) fun b H' G' => Q b H'
end
section
variable {X : Cx} {W : WX} {A : Nat → Prop}
abbrev DE (X : Cx) (W : WX) (A : Nat → Prop) (ex : Expr) (f : Env → Res D) : Prop := PE X ex (tD X.K X.mg W A f)
abbrev DR (X : Cx) (W : WX) (A : Nat → Prop) (ex : Expr) (f : Env → Res D) : Prop := PE X ex (tR X.K X.mg W A f)
abbrev DF (X : Cx) (W : WX) (A : Nat → Prop) (ex : Expr) (f : Env → Res D) : Prop := PE X ex (tF X.K X.mg W A f)
abbrev DA (X : Cx) (W : WX) (A : Nat → Prop) (es : List Expr) (f : Env → Res (List D)) : Prop := PA X es (tDs X.K X.mg W A f)
abbrev DT (X : Cx) (W : WX) (A : Nat → Prop) (ex : Expr) (f : Env → Res Bool) : Prop := PT X ex (tT X.K X.mg W A f)
abbrev DW (X : Cx) (W : WX) (A : Nat → Prop) (ex : Expr) (f : Env → Res Bool) : Prop := PW X ex (tT X.K X.mg W A f)
/-- kept, so read -/
theorem dr {ex : Expr} {f : Env → Res D} (h : DE X W A ex f) : DR X W A ex f :=
  h.imp fun σ H Q ⟨e, G, E, p⟩ => ⟨e, G, E, p.imp fun d H' G' x q v r => q v (r.c x.gh)⟩
/-- new, so locked and all men's -/
theorem own_lock {K : PySem.W.Frag} {H G H' G' : Hp} {d : D} {a : Addr} (x : Ext H G H' G') (ha : H a = none) (ga : G' a = none) (rc : OwnC K H' G' d a) : LockT (fun H2 => ∃ G2, Ext H G H2 G2 ∧ Rep K G2 d (.ref a)) H' := by
  cases hd : d.isDct with
  | false =>
    have sg : Sub G' (fun b => if b = a then H' b else G' b) := fun b o q => by
      show (if b = a then H' b else G' b) = some o
      by_cases hb : b = a
      · subst hb; rw [ga] at q; cases q
      · rw [if_neg hb]; exact q
    have gaa : (fun b => if b = a then H' b else G' b : Hp) a = H' a := if_pos rfl
    refine .here ⟨fun b => if b = a then H' b else G' b, ⟨x.hh, x.gg.trans sg, fun b o q => ?_, fun b q => ?_⟩, rc.put hd sg gaa⟩
    · have q' : (if b = a then H' b else G' b) = some o := q
      by_cases hb : b = a
      · rw [if_pos hb] at q'; exact q'
      · rw [if_neg hb] at q'; exact x.gh _ _ q'
    · have q' : (if b = a then H' b else G' b) ≠ none := q
      by_cases hb : b = a
      · subst hb; exact .inr (.inl ha)
      · rw [if_neg hb] at q'; exact x.new b q'
  | true =>
    have sg : ∀ od u, Sub G' (upd G' a (.frz od u)) := fun od u => Sub.upd ga
    obtain ⟨u, hu, mu, _⟩ := rc.lock hd (Sub.refl G')
    refine .lock hu mu fun od => .here ⟨upd G' a (.frz od u), ⟨fun b o q => ?_, x.gg.trans (sg od u), fun b o q => ?_, fun b q => ?_⟩, ?_⟩
    · have nb : b ≠ a := fun z => by rw [z, ha] at q; cases q
      rw [upd_ne nb]; exact x.hh b o q
    · by_cases hb : b = a
      · subst hb; rw [upd_same] at q ⊢; exact q
      · rw [upd_ne hb] at q ⊢; exact x.gh b o q
    · by_cases hb : b = a
      · subst hb; exact .inr (.inl ha)
      · rw [upd_ne hb] at q; exact x.new b q
    · obtain ⟨u', hu', _, k⟩ := rc.lock hd (sg od u)
      rw [hu] at hu'; cases hu'
      exact k od upd_same
/-- new, so kept -/
theorem de_of {ex : Expr} {f : Env → Res D} (h : DF X W A ex f) : DE X W A ex f :=
  h.lkP fun σ H Q ⟨e, G, E, p⟩ => ⟨e, G, E, by
    cases hr : f e with
    | exc c fs => rw [hr] at p; exact p
    | bad => rw [hr] at p; exact p
    | ok d =>
      rw [hr] at p
      intro H' G' x a ha ga rc
      exact (own_lock x ha ga rc).imp fun H2 ⟨G2, y, r⟩ => p H2 G2 y (.ref a) r⟩

/-! ### names, constants -/
def eVar (i : Nat) : Env → Res D := fun e => match e[i]? with
  | some (some (d, _)) => .ok d
  | _ => .bad
def eC (d : D) : Env → Res D := fun _ => .ok d
theorem de_var {i : Nat} {x : Str} {pos : Pos} (hN : X.N[i]? = some x) (hv : Vis X.env.scope x) (hA : A i) (hd : (x == ("__debug__" : Str)) = false := by decide) (hcd : (x == ("__classdict__" : Str)) = false := by decide) : DE X W A (.Name x pos) (eVar i) :=
  (pe_var hN hv hd hcd).imp fun σ H Q ⟨e, G, E, p⟩ => by
    unfold eVar at p
    cases h : e[i]? with
    | none => rw [h] at p; exact p.elim
    | some s => cases s with
      | none => rw [h] at p; exact p.elim
      | some z =>
        obtain ⟨d, o⟩ := z
        rw [h] at p
        obtain ⟨v, h1, h2, h3⟩ := E.val i d o h
        exact ⟨v, h1, p.here E.sub v (h2 (.inl hA))⟩
/-- a name that is read alone -/
theorem dr_var {i : Nat} {x : Str} {pos : Pos} (hN : X.N[i]? = some x) (hv : Vis X.env.scope x) (hd : (x == ("__debug__" : Str)) = false := by decide) (hcd : (x == ("__classdict__" : Str)) = false := by decide) : DR X W A (.Name x pos) (eVar i) :=
  (pe_var hN hv hd hcd).imp fun σ H Q ⟨e, G, E, p⟩ => by
    unfold eVar at p
    cases h : e[i]? with
    | none => rw [h] at p; exact p.elim
    | some s => cases s with
      | none => rw [h] at p; exact p.elim
      | some z =>
        obtain ⟨d, o⟩ := z
        rw [h] at p
        obtain ⟨v, h1, h2, h3⟩ := E.val i d o h
        exact ⟨v, h1, p.here E.sub v h3⟩
theorem de_const {ex : Expr} {v : V} {d : D} (h : PE X ex (tC v)) (r : ∀ G, Rep X.K G d v) : DE X W A ex (eC d) :=
  h.imp fun σ H Q ⟨e, G, E, p⟩ => p.here E.sub v (r G)
theorem de_int {i j pos} : DE X W A (.Constant (.int i) j pos) (eC (.int i)) := de_const pe_int fun _ => rfl
theorem de_bl {b j pos} : DE X W A (.Constant (.bool b) j pos) (eC (.bl b)) := de_const pe_bl fun _ => rfl
/-! ### operators on two values -/
def eOp (g : D → D → Res D) (fa fb : Env → Res D) : Env → Res D := fun e => (fa e).bind fun x => (fb e).bind fun y => g x y
/-- the operation f does on data what g says -/
def OpD (X : Cx) (W : WX) (f : Value → Value → Sem Value) (g : D → D → Res D) : Prop :=
  ∃ r, OpR X f r ∧ ∀ (σ : L2.St) (H G : Hp) (x y : V) (dx dy : D) (Q : VK), Sub G H → RepC X.K H G dx x → RepC X.K H G dy y →
    PostG X.K X.mg (fun c o H' => W c o σ H') H G (g dx dy) (fun d H' G' => ∀ v, Rep X.K G' d v → Q v H') → r x y H Q
theorem op_two {r : R2} {g : D → D → Res D} {fa fb : Env → Res D} {ta tb : TE} (hta : ta = tR X.K X.mg W A fa) (htb : tb = tR X.K X.mg W A fb)
    (h : ∀ (σ : L2.St) (H G : Hp) (x y : V) (dx dy : D) (Q : VK), Sub G H → RepC X.K H G dx x → RepC X.K H G dy y →
      PostG X.K X.mg (fun c o H' => W c o σ H') H G (g dx dy) (fun d H' G' => ∀ v, Rep X.K G' d v → Q v H') → r x y H Q) (σ : L2.St) (H : Hp) (Q : VK) (q : tD X.K X.mg W A (eOp g fa fb) σ H Q) : tOp r ta tb σ H Q := by
  subst hta htb
  obtain ⟨e, G, E, p⟩ := q
  refine ⟨e, G, E, p.split.imp fun dx H1 G1 x1 p1 v rv => ?_⟩
  refine ⟨e, G1, E.ext x1, p1.split.imp fun dy H2 G2 x2 p2 u ru => ?_⟩
  exact h σ H2 G2 v u dx dy Q x2.gh (rv.mono x2.hh x2.gg) ru p2
theorem de_bin {op : Operator} {a b : Expr} {fa fb : Env → Res D} {g : D → D → Res D} {pos : Pos} (ho : OpD X W (binaryOp op) g) (ha : DR X W A a fa) (hb : DR X W A b fb) : DE X W A (.BinOp a op b pos) (eOp g fa fb) := by
  obtain ⟨r, h1, h2⟩ := ho
  exact (pe_op h1 ha hb).imp (op_two rfl rfl h2)
theorem de_cmp {op : CmpOp} {a b : Expr} {fa fb : Env → Res D} {g : D → D → Res D} {pos : Pos} (ho : OpD X W (compareOp op) g) (ha : DR X W A a fa) (hb : DR X W A b fb) (hm : behindInMarks op b = false) : DE X W A (.Compare a [op] [b] pos) (eOp g fa fb) := by
  obtain ⟨r, h1, h2⟩ := ho
  exact (pe_cmpR h1 ha hb hm).imp (op_two rfl rfl h2)
end
end DL

namespace DL
open PySem PySem.Spec PyProof.Rows L2
open PySem.Builtin.Int (intBits)

/-! ### whole numbers -/
def big : Nat := 130000000
theorem mul_ok {i j : Int} (h : intBits i + intBits j ≤ big) : IntMulOk i j := by
  have e : bitsLine = 134217728 := by decide
  unfold IntMulOk
  intro z
  rw [Bool.and_eq_true] at z
  have z2 := z.2
  unfold Builtin.Int.intTooBig at z2
  have z3 := of_decide_eq_true z2
  rw [e] at z3
  have hb : big = 130000000 := rfl
  omega
section
variable {X : Cx} {W : WX}
/-- a rule for two values, where it is told of data -/
theorem OpD.or {f : Value → Value → Sem Value} {g1 g2 : D → D → Res D} (c : D → D → Bool) (h1 : OpD X W f g1) (h2 : OpD X W f g2) : OpD X W f fun x y => if c x y = true then g1 x y else g2 x y := by
  obtain ⟨r1, o1, q1⟩ := h1
  obtain ⟨r2, o2, q2⟩ := h2
  refine ⟨_, OpR.or o1 o2, fun σ H G x y dx dy Q sg rx ry p => ?_⟩
  dsimp only at p
  by_cases hc : c dx dy = true
  · rw [if_pos hc] at p; exact .inl (q1 σ H G x y dx dy Q sg rx ry p)
  · rw [if_neg hc] at p; exact .inr (q2 σ H G x y dx dy Q sg rx ry p)
theorem OpD.congr {f : Value → Value → Sem Value} {g1 g2 : D → D → Res D} (h : OpD X W f g1) (e : ∀ x y, g2 x y = .bad ∨ g2 x y = g1 x y) : OpD X W f g2 := by
  obtain ⟨r, o, q⟩ := h
  refine ⟨r, o, fun σ H G x y dx dy Q sg rx ry p => ?_⟩
  rcases e dx dy with z | z
  · rw [z] at p; exact p.elim
  · rw [z] at p; exact q σ H G x y dx dy Q sg rx ry p

/-- ints in, an int out -/
def gI (C : Int → Int → Bool) (g : Int → Int → Int) : D → D → Res D
  | .int i, .int j => if C i j = true then .ok (.int (g i j)) else .bad
  | _, _ => .bad
theorem od_I {f : Value → Value → Sem Value} {C : Int → Int → Bool} {g : Int → Int → Int}
    (rule : ∀ (i j : Int) (t u : Tok) (s : Shared) (Q : Value → Shared → Prop) (E : Value → Shared → Prop), C i j = true → Q (.int (g i j) s.toks) { s with toks := s.toks + 1 } → wpAny (model X.prog X.w) X.A (f (.int i t) (.int j u)) Q E s) :
    OpD X W f (gI C g) := by
  refine ⟨rI (fun i j => C i j = true) fun i j => .int (g i j), opI rule, fun σ H G x y dx dy Q sg rx ry p => ?_⟩
  cases dx with
  | int i =>
    cases dy with
    | int j =>
      have rx' : x = .int i := rx
      have ry' : y = .int j := ry
      dsimp only [gI] at p
      by_cases hc : C i j = true
      · rw [if_pos hc] at p
        exact ⟨i, j, rx', ry', hc, p.here sg _ rfl⟩
      · rw [if_neg hc] at p
        exact p.elim
    | _ => exact (show False from p).elim
  | _ => cases dy <;> exact (show False from p).elim
def cT : Int → Int → Bool := fun _ _ => true
def cMul : Int → Int → Bool := fun i j => decide (intBits i + intBits j ≤ big)
def cDiv : Int → Int → Bool := fun _ j => decide (j ≠ 0 ∧ j.natAbs.log2 < 9000)
def cMod : Int → Int → Bool := fun _ j => decide (j ≠ 0)
def cPow : Int → Int → Bool := fun i j => decide (0 ≤ j ∧ (intBits i : Int) * j ≤ 2 ^ 27)
theorem od_subI : OpD X W (binaryOp .Sub) (gI cT fun i j => i - j) := od_I fun _ _ _ _ _ _ _ _ q => sub_int q
theorem od_mulI : OpD X W (binaryOp .Mult) (gI cMul fun i j => i * j) := od_I fun _ _ _ _ _ _ _ c q => mul_int q (mul_ok (of_decide_eq_true c))
theorem od_divI : OpD X W (binaryOp .FloorDiv) (gI cDiv fun i j => i.fdiv j) := od_I fun _ _ _ _ _ _ _ c q =>
  have c' := of_decide_eq_true c
  floordiv_int c'.1 q (.inl (PyProof.noPylong_of_log2 c'.2))
theorem od_modI : OpD X W (binaryOp .Mod) (gI cMod fun i j => i.fmod j) := od_I fun _ _ _ _ _ _ _ c q => mod_int' (of_decide_eq_true c) q
theorem od_powI : OpD X W (binaryOp .Pow) (gI cPow fun i j => i ^ j.toNat) := od_I fun _ _ _ _ _ _ _ c q =>
  have c' := of_decide_eq_true c
  pow_int c'.1 c'.2 q
/-! ### + of texts, tuples, lists -/
def dAdd : D → D → Res D
  | .int i, .int j => .ok (.int (i + j))
  | .str a, .str b => if a.length + b.length ≤ sizeLine then .ok (.str (a ++ b)) else .bad
  | .tup a, .tup b => if a.length + b.length ≤ sizeLine then .ok (.tup (a ++ b)) else .bad
  | .lst a, .lst b => if a.length + b.length ≤ sizeLine then .ok (.lst (a ++ b)) else .bad
  | _, _ => .bad
/-- a + b of lists that are read -/
def rCatR (K : PySem.W.Frag) : R2 := fun x y H Q => ∃ l b xs zs, x = .ref l ∧ y = .ref b ∧ SqL K H l xs ∧ SqL K H b zs ∧ xs.length + zs.length ≤ sizeLine ∧ ∀ p, H p = none → Q (.ref p) (upd H p (.lst (xs ++ zs)))
theorem op_catR : OpR X (binaryOp .Add) (rCatR X.K) := by
  intro pins s σ H x y v u Q I rx ry h
  obtain ⟨l, b, xs, zs, rfl, rfl, hH, hB, hz, q⟩ := h
  cases rx
  cases ry
  obtain ⟨its, r, ⟨⟨cls, dd, data, sl⟩, n, ho, hc, hdd, hd⟩, _⟩ := I.list hH
  obtain ⟨its2, r2, ⟨⟨cls2, dd2, data2, sl2⟩, n2, ho2, hc2, hdd2, hd2⟩, _⟩ := I.list hB
  simp only at hc hd hc2 hd2
  subst hc hd hc2 hd2
  have l1 := r.length
  have l2 := r2.length
  have e : its.toArray ++ its2.toArray = (its ++ its2).toArray := by simp
  refine concat_meets ⟨_, ho, rfl⟩ ⟨_, ho2, rfl⟩ noFill_list_add seq_list_add PySem.F.slot_list_add PySem.F.entry_list_add (PySem.F.args_list_add_2 _ _) (list_addW l b its.toArray its2.toArray n n2 dd dd2 sl sl2 (by simp; omega)) ⟨ho, ho2, ?_⟩
  rw [e]
  exact ⟨.ref _, _, I.lnew (t' := s.toks) (r.append r2) (by rw [List.length_append]; omega), rfl, q _ I.fresh⟩
theorem op_addS' : OpR X (binaryOp .Add) (fun x y H Q => ∃ i j, x = .str i ∧ y = .str j ∧ i.length + j.length ≤ sizeLine ∧ Q (.str (i ++ j)) H) := op_add_str
theorem od_add : OpD X W (binaryOp .Add) dAdd := by
  refine ⟨_, OpR.or op_add (OpR.or op_addS' (OpR.or op_catA op_catR)), fun σ H G x y dx dy Q sg rx ry p => ?_⟩
  cases dx with
  | int i =>
    cases dy with
    | int j => exact .inl ⟨i, j, rx, ry, PostG.val (d := .int (i + j)) p sg rfl⟩
    | _ => exact (show False from p).elim
  | str i =>
    cases dy with
    | str j =>
      dsimp only [dAdd] at p
      by_cases hc : i.length + j.length ≤ sizeLine
      · rw [if_pos hc] at p
        exact .inr (.inl ⟨i, j, rx, ry, hc, p.here sg _ rfl⟩)
      · rw [if_neg hc] at p; exact p.elim
    | _ => exact (show False from p).elim
  | tup i =>
    cases dy with
    | tup j =>
      dsimp only [dAdd] at p
      by_cases hc : i.length + j.length ≤ sizeLine
      · rw [if_pos hc] at p
        obtain ⟨a, vs, e1, s1, r1⟩ := (show Rep X.K G (.tup i) x from rx)
        obtain ⟨b, ws, e2, s2, r2⟩ := (show Rep X.K G (.tup j) y from ry)
        refine .inr (.inr (.inl ⟨a, b, vs, ws, e1, e2, sg.pt s1, sg.pt s2, by rw [r1.length, r2.length]; exact hc, fun z => ?_, fun z1 z2 => ?_, fun z1 z2 q hq => ?_⟩))
        · subst z
          refine p.here sg _ ⟨b, ws, rfl, s2, ?_⟩
          cases i with
          | nil => exact r2
          | cons d ds => obtain ⟨_, _, e, _⟩ := r1; cases e
        · subst z2
          refine p.here sg _ ⟨a, vs, rfl, s1, ?_⟩
          cases j with
          | nil => rw [List.append_nil]; exact r1
          | cons d ds => obtain ⟨_, _, e, _⟩ := r2; cases e
        · exact p _ _ (Ext.laid sg hq) _ ⟨q, _, rfl, upd_same, (r1.append r2).mono (Sub.upd (sg.free hq))⟩
      · rw [if_neg hc] at p; exact p.elim
    | _ => exact (show False from p).elim
  | lst i =>
    cases dy with
    | lst j =>
      dsimp only [dAdd] at p
      by_cases hc : i.length + j.length ≤ sizeLine
      · rw [if_pos hc] at p
        obtain ⟨a, vs, e1, s1, r1⟩ := rx
        obtain ⟨b, ws, e2, s2, r2⟩ := ry
        refine .inr (.inr (.inr ⟨a, b, vs, ws, e1, e2, s1, s2, by rw [r1.length, r2.length]; exact hc, fun q hq => ?_⟩))
        exact p _ _ (Ext.laid sg hq) _ ⟨q, _, rfl, SqL.of upd_same, (r1.append r2).mono (Sub.upd (sg.free hq))⟩
      · rw [if_neg hc] at p; exact p.elim
    | _ => exact (show False from p).elim
  | _ => exact (show False from p).elim

/-! ### * -/
def dMul : D → D → Res D
  | .int i, .int j => if intBits i + intBits j ≤ big then .ok (.int (i * j)) else .bad
  | _, _ => .bad
theorem od_mul : OpD X W (binaryOp .Mult) dMul := od_mulI.congr fun x y => by
  cases x <;> cases y <;> first
    | exact .inl rfl
    | exact .inr (by simp [dMul, gI, cMul])
def dSub : D → D → Res D
  | .int i, .int j => .ok (.int (i - j))
  | _, _ => .bad
theorem od_sub : OpD X W (binaryOp .Sub) dSub := od_subI.congr fun x y => by
  cases x <;> cases y <;> first
    | exact .inl rfl
    | exact .inr (by simp [dSub, gI, cT])
def dDiv : D → D → Res D
  | .int i, .int j => if j ≠ 0 ∧ j.natAbs.log2 < 9000 then .ok (.int (i.fdiv j)) else .bad
  | _, _ => .bad
theorem od_div : OpD X W (binaryOp .FloorDiv) dDiv := od_divI.congr fun x y => by
  cases x <;> cases y <;> first
    | exact .inl rfl
    | exact .inr (by simp [dDiv, gI, cDiv])
def dMod : D → D → Res D
  | .int i, .int j => if j ≠ 0 then .ok (.int (i.fmod j)) else .bad
  | _, _ => .bad
theorem od_mod : OpD X W (binaryOp .Mod) dMod := od_modI.congr fun x y => by
  cases x <;> cases y <;> first
    | exact .inl rfl
    | exact .inr (by simp [dMod, gI, cMod])
def dPow : D → D → Res D
  | .int i, .int j => if 0 ≤ j ∧ (intBits i : Int) * j ≤ 2 ^ 27 then .ok (.int (i ^ j.toNat)) else .bad
  | _, _ => .bad
theorem od_pow : OpD X W (binaryOp .Pow) dPow := od_powI.congr fun x y => by
  cases x <;> cases y <;> first
    | exact .inl rfl
    | exact .inr (by simp [dPow, gI, cPow])

end

/-! ### == of data -/
mutual
def D.py : D → PyData
  | .non => .none
  | .bl b => .bool b
  | .int i => .int i
  | .str x => .str x
  | .obj _ => .none
  | .tup xs => .tuple (D.pys xs)
  | .lst xs => .list (D.pys xs)
  | .dct _ _ => .none
  | .con xs => .tuple (D.pys xs)
def D.pys : List D → List PyData
  | [] => []
  | d :: r => D.py d :: D.pys r
end
mutual
/-- without dicts and objects; texts that are texts; at most so deep -/
def D.pl : D → Nat → Bool
  | .non, _ => true
  | .bl _, _ => true
  | .int _, _ => true
  | .str x, _ => PyData.strOk x
  | .obj _, _ => false
  | .tup xs, n => match n with
    | 0 => false
    | n + 1 => D.pls xs n
  | .lst xs, n => match n with
    | 0 => false
    | n + 1 => D.pls xs n
  | .dct _ _, _ => false
  | .con xs, n => match n with
    | 0 => false
    | n + 1 => D.pls xs n
def D.pls : List D → Nat → Bool
  | [], _ => true
  | d :: r, n => D.pl d n && D.pls r n
end
theorem pl_nd {d : D} {n : Nat} (h : d.pl n = true) : d.isDct = false := by
  cases d with
  | dct t kvs => simp [D.pl] at h
  | _ => rfl
mutual
theorem py_can : ∀ (d : D) (n : Nat), d.pl n = true → d.py.canLay0 = true ∧ d.py.depth ≤ n
  | .non, n, _ => ⟨by simp [D.py, PyData.canLay0], by simp [D.py, PyData.depth]⟩
  | .bl _, n, _ => ⟨by simp [D.py, PyData.canLay0], by simp [D.py, PyData.depth]⟩
  | .int _, n, _ => ⟨by simp [D.py, PyData.canLay0], by simp [D.py, PyData.depth]⟩
  | .str _, n, h => ⟨by simpa [D.py, PyData.canLay0, D.pl] using h, by simp [D.py, PyData.depth]⟩
  | .obj _, n, h => by simp [D.pl] at h
  | .dct _ _, n, h => by simp [D.pl] at h
  | .con xs, 0, h => by simp [D.pl] at h
  | .con xs, n + 1, h => by
    have := pys_can xs n (by simpa [D.pl] using h)
    exact ⟨by simpa [D.py, PyData.canLay0] using this.1, by simp [D.py, PyData.depth]; exact this.2⟩
  | .tup xs, 0, h => by simp [D.pl] at h
  | .lst xs, 0, h => by simp [D.pl] at h
  | .tup xs, n + 1, h => by
    have := pys_can xs n (by simpa [D.pl] using h)
    exact ⟨by simpa [D.py, PyData.canLay0] using this.1, by simp [D.py, PyData.depth]; exact this.2⟩
  | .lst xs, n + 1, h => by
    have := pys_can xs n (by simpa [D.pl] using h)
    exact ⟨by simpa [D.py, PyData.canLay0] using this.1, by simp [D.py, PyData.depth]; exact this.2⟩
theorem pys_can : ∀ (ds : List D) (n : Nat), D.pls ds n = true → PyData.canLayAll0 (D.pys ds) = true ∧ PyData.depthAll (D.pys ds) ≤ n
  | [], n, _ => ⟨by simp [D.pys, PyData.canLayAll0], by simp [D.pys, PyData.depthAll]⟩
  | d :: r, n, h => by
    have h' : d.pl n = true ∧ D.pls r n = true := by simpa [D.pls] using h
    have a := py_can d n h'.1
    have b := pys_can r n h'.2
    exact ⟨by simp [D.pys, PyData.canLayAll0, a.1, b.1], by simp only [D.pys, PyData.depthAll]; omega⟩
end
mutual
theorem Rep.dp {K : PySem.W.Frag} {H : Hp} : ∀ (d : D) (n : Nat) (v : V), d.pl n = true → Rep K H d v → Dp K H v d.py
  | .non, n, v, _, r => by rw [show v = .non from r]; exact .non
  | .bl b, n, v, _, r => by rw [show v = .bl b from r]; exact .bl b
  | .int i, n, v, _, r => by rw [show v = .int i from r]; exact .int i
  | .str x, n, v, _, r => by rw [show v = .str x from r]; exact .str x
  | .obj _, n, v, h, r => by simp [D.pl] at h
  | .dct _ _, n, v, h, r => by simp [D.pl] at h
  | .con xs, 0, v, h, r => by simp [D.pl] at h
  | .con xs, n + 1, v, h, r => by
    obtain ⟨a, vs, e, s, q⟩ := r
    subst e
    exact .tup s.sqt (RepL.dp xs n vs (by simpa [D.pl] using h) q)
  | .tup xs, 0, v, h, r => by simp [D.pl] at h
  | .lst xs, 0, v, h, r => by simp [D.pl] at h
  | .tup xs, n + 1, v, h, r => by
    obtain ⟨a, vs, e, s, q⟩ := r
    subst e
    exact .tup (SqT.of s) (RepL.dp xs n vs (by simpa [D.pl] using h) q)
  | .lst xs, n + 1, v, h, r => by
    obtain ⟨a, vs, e, s, q⟩ := r
    subst e
    exact .lst s (RepL.dp xs n vs (by simpa [D.pl] using h) q)
theorem RepL.dp {K : PySem.W.Frag} {H : Hp} : ∀ (ds : List D) (n : Nat) (vs : List V), D.pls ds n = true → RepL K H ds vs → DpAll K H vs (D.pys ds)
  | [], n, vs, _, r => by rw [show vs = [] from r]; exact .nil
  | d :: ds, n, vs, h, r => by
    obtain ⟨v, t, e, a, b⟩ := r
    subst e
    have h' : d.pl n = true ∧ D.pls ds n = true := by simpa [D.pls] using h
    exact .cons (Rep.dp d n v h'.1 a) (RepL.dp ds n t h'.2 b)
end
theorem shaped_py {d : D} {n : Nat} (h : d.pl n = true) (hn : n ≤ 64) : SeqAt.shaped d.py = true := by
  have := py_can d n h
  unfold SeqAt.shaped
  rw [this.1, decide_eq_true (by omega : d.py.depth ≤ 64)]
  rfl
def D.beq (x y : D) : Bool := PyData.eqv x.py y.py
def dEq : D → D → Res D
  | .str a, .str b => .ok (.bl (decide (a = b)))
  | x, y => if x.pl 60 = true ∧ y.pl 60 = true then .ok (.bl (D.beq x y)) else .bad
def dNe : D → D → Res D
  | .str a, .str b => .ok (.bl (!decide (a = b)))
  | x, y => if x.pl 60 = true ∧ y.pl 60 = true then .ok (.bl (!D.beq x y)) else .bad
section
variable {X : Cx} {W : WX}
theorem od_eq (hu : X.A.units + 64 < cLine) : OpD X W (compareOp .Eq) dEq := by
  refine ⟨_, OpR.or op_eq (op_eqD hu), fun σ H G x y dx dy Q sg rx ry p => ?_⟩
  have gen : PostG X.K X.mg (fun c o H' => W c o σ H') H G (if dx.pl 60 = true ∧ dy.pl 60 = true then .ok (.bl (D.beq dx dy)) else .bad) (fun d H' G' => ∀ v, Rep X.K G' d v → Q v H') → rEq x y H Q ∨ rEqD X.K x y H Q := fun p => by
    by_cases hc : dx.pl 60 = true ∧ dy.pl 60 = true
    · rw [if_pos hc] at p
      exact .inr ⟨dx.py, dy.py, Rep.dp dx 60 x hc.1 (rx.all sg (pl_nd hc.1)), Rep.dp dy 60 y hc.2 (ry.all sg (pl_nd hc.2)), shaped_py hc.1 (by decide), shaped_py hc.2 (by decide), p.here sg _ rfl⟩
    · rw [if_neg hc] at p; exact p.elim
  cases dx with
  | str a =>
    cases dy with
    | str b =>
      have rx' : x = .str a := rx
      have ry' : y = .str b := ry
      subst rx' ry'
      refine .inl ⟨rfl, ?_⟩
      have q : Q (.bl (decide (a = b))) H := PostG.val (d := .bl (decide (a = b))) p sg rfl
      have e : decide (V.str a = V.str b) = decide (a = b) := by simp
      rw [e]; exact q
    | _ => exact gen p
  | _ => exact gen p
theorem od_ne (hu : X.A.units + 64 < cLine) : OpD X W (compareOp .NotEq) dNe := by
  refine ⟨_, OpR.or op_ne (op_neD hu), fun σ H G x y dx dy Q sg rx ry p => ?_⟩
  have gen : PostG X.K X.mg (fun c o H' => W c o σ H') H G (if dx.pl 60 = true ∧ dy.pl 60 = true then .ok (.bl (!D.beq dx dy)) else .bad) (fun d H' G' => ∀ v, Rep X.K G' d v → Q v H') → rNe x y H Q ∨ rNeD X.K x y H Q := fun p => by
    by_cases hc : dx.pl 60 = true ∧ dy.pl 60 = true
    · rw [if_pos hc] at p
      exact .inr ⟨dx.py, dy.py, Rep.dp dx 60 x hc.1 (rx.all sg (pl_nd hc.1)), Rep.dp dy 60 y hc.2 (ry.all sg (pl_nd hc.2)), shaped_py hc.1 (by decide), shaped_py hc.2 (by decide), p.here sg _ rfl⟩
    · rw [if_neg hc] at p; exact p.elim
  cases dx with
  | str a =>
    cases dy with
    | str b =>
      have rx' : x = .str a := rx
      have ry' : y = .str b := ry
      subst rx' ry'
      refine .inl ⟨rfl, ?_⟩
      have q : Q (.bl (!decide (a = b))) H := PostG.val (d := .bl (!decide (a = b))) p sg rfl
      have e : decide (V.str a = V.str b) = decide (a = b) := by simp
      rw [e]; exact q
    | _ => exact gen p
  | _ => exact gen p
end
/-! ### < of data -/
/-- the two can be compared -/
def D.cmpb (x y : D) : Bool := x.pl 60 && y.pl 60 && PySem.W.alike x.py y.py && (match x with | .non => false | _ => true)
/-- x < y, of data that can be compared -/
def D.lt (x y : D) : Bool := PySem.W.dataLt x.py y.py
def cmpD (f : D → D → Bool) (x y : D) : Res D := if D.cmpb x y = true then .ok (.bl (f x y)) else .bad
def dLt : D → D → Res D
  | .int i, .int j => .ok (.bl (decide (i < j)))
  | x, y => cmpD (fun x y => D.lt x y) x y
def dLe : D → D → Res D
  | .int i, .int j => .ok (.bl (decide (i ≤ j)))
  | x, y => cmpD (fun x y => !D.lt y x) x y
def dGt : D → D → Res D
  | .int i, .int j => .ok (.bl (decide (j < i)))
  | x, y => cmpD (fun x y => D.lt y x) x y
def dGe : D → D → Res D
  | .int i, .int j => .ok (.bl (decide (j ≤ i)))
  | x, y => cmpD (fun x y => !D.lt x y) x y
def rCmpD (K : PySem.W.Frag) (f : PyData → PyData → Bool) : R2 := fun x y H Q => ∃ d e, Dp K H x d ∧ Dp K H y e ∧ SeqAt.shaped d = true ∧ SeqAt.shaped e = true ∧ PySem.W.alike d e = true ∧ d ≠ .none ∧ Q (.bl (f d e)) H
theorem shaped_depth {d : PyData} (h : SeqAt.shaped d = true) : d.depth ≤ 64 := by
  unfold SeqAt.shaped at h
  rw [Bool.and_eq_true] at h
  exact of_decide_eq_true h.2
section
variable {X : Cx} {W : WX}
theorem op_ltD (hu : X.A.units + 64 < cLine) : OpR X (compareOp .Lt) (rCmpD X.K PySem.W.dataLt) := by
  intro pins s σ H x y v u Q I rx ry h
  obtain ⟨d, e, hd, he, sd, se, al, nn, q⟩ := h
  obtain ⟨as, r1⟩ := Dp.reads I d x v hd rx
  obtain ⟨bs, r2⟩ := Dp.reads I e y u he ry
  have := shaped_depth sd
  exact PySem.W.lt_data r1 r2 al nn (by omega) ⟨.bl _, H, I, rfl, q⟩
theorem op_gtD (hu : X.A.units + 64 < cLine) : OpR X (compareOp .Gt) (rCmpD X.K fun d e => PySem.W.dataLt e d) := by
  intro pins s σ H x y v u Q I rx ry h
  obtain ⟨d, e, hd, he, sd, se, al, nn, q⟩ := h
  obtain ⟨as, r1⟩ := Dp.reads I d x v hd rx
  obtain ⟨bs, r2⟩ := Dp.reads I e y u he ry
  have := shaped_depth sd
  exact PySem.W.gt_data r1 r2 al nn (by omega) ⟨.bl _, H, I, rfl, q⟩
theorem cmp_rep {K : PySem.W.Frag} {H G : Hp} {x y : V} {dx dy : D} (sg : Sub G H) (hc : D.cmpb dx dy = true) (rx : RepC K H G dx x) (ry : RepC K H G dy y) :
    Dp K H x dx.py ∧ Dp K H y dy.py ∧ SeqAt.shaped dx.py = true ∧ SeqAt.shaped dy.py = true ∧ PySem.W.alike dx.py dy.py = true ∧ dx.py ≠ .none := by
  unfold D.cmpb at hc
  simp only [Bool.and_eq_true] at hc
  obtain ⟨⟨⟨h1, h2⟩, h3⟩, h4⟩ := hc
  refine ⟨Rep.dp dx 60 x h1 (rx.all sg (pl_nd h1)), Rep.dp dy 60 y h2 (ry.all sg (pl_nd h2)), shaped_py h1 (by decide), shaped_py h2 (by decide), h3, ?_⟩
  cases dx with
  | non => cases h4
  | obj _ => simp [D.pl] at h1
  | dct _ _ => simp [D.pl] at h1
  | _ => simp [D.py]
theorem od_cmp {op : CmpOp} {g : D → D → Res D} {gi : Int → Int → Bool} {f : D → D → Bool} {fp : PyData → PyData → Bool} (o1 : OpR X (compareOp op) (rI0 fun i j => .bl (gi i j))) (o2 : OpR X (compareOp op) (rCmpD X.K fp)) (hf : ∀ x y, f x y = fp x.py y.py)
    (hg : ∀ x y, (∃ i j, x = .int i ∧ y = .int j ∧ g x y = .ok (.bl (gi i j))) ∨ g x y = cmpD f x y) : OpD X W (compareOp op) g := by
  refine ⟨_, OpR.or o1 o2, fun σ H G x y dx dy Q sg rx ry p => ?_⟩
  rcases hg dx dy with ⟨i, j, e1, e2, e3⟩ | e
  · subst e1 e2
    rw [e3] at p
    exact .inl ⟨i, j, rx, ry, PostG.val (d := .bl (gi i j)) p sg rfl⟩
  · rw [e] at p
    unfold cmpD at p
    by_cases hc : D.cmpb dx dy = true
    · rw [if_pos hc] at p
      obtain ⟨a1, a2, a3, a4, a5, a6⟩ := cmp_rep sg hc rx ry
      refine .inr ⟨_, _, a1, a2, a3, a4, a5, a6, ?_⟩
      rw [← hf]
      exact p.here sg _ rfl
    · rw [if_neg hc] at p; exact p.elim
theorem od_lt (hu : X.A.units + 64 < cLine) : OpD X W (compareOp .Lt) dLt := od_cmp op_lt (op_ltD hu) (fun _ _ => rfl) fun x y => by
  cases x <;> cases y <;> first
    | exact .inl ⟨_, _, rfl, rfl, rfl⟩
    | exact .inr rfl
theorem od_gt (hu : X.A.units + 64 < cLine) : OpD X W (compareOp .Gt) dGt := od_cmp op_gt (op_gtD hu) (fun _ _ => rfl) fun x y => by
  cases x <;> cases y <;> first
    | exact .inl ⟨_, _, rfl, rfl, rfl⟩
    | exact .inr rfl
end
end DL

namespace DL
open PySem PySem.Spec PyProof.Rows L2
open PySem.Builtin.Int (intBits)

/-! ### tests -/
def D.asB : D → Res Bool
  | .bl b => .ok b
  | _ => .bad
/-- a value's truth -/
def D.truth : D → Res Bool
  | .non => .ok false
  | .bl b => .ok b
  | .int i => .ok (i != 0)
  | .str x => if x.length ≤ sizeLine then .ok ((x.length : Int) != 0) else .bad
  | .lst xs => .ok (!xs.isEmpty)
  | .tup xs => .ok (!xs.isEmpty)
  | _ => .bad
def bTest (g : D → D → Res D) (fa fb : Env → Res D) : Env → Res Bool := fun e => (fa e).bind fun x => (fb e).bind fun y => (g x y).bind D.asB
def bTruth (f : Env → Res D) : Env → Res Bool := fun e => (f e).bind D.truth
def bAnd (fa fb : Env → Res Bool) : Env → Res Bool := fun e => (fa e).bind fun b => if b = true then fb e else .ok false
def bOr (fa fb : Env → Res Bool) : Env → Res Bool := fun e => (fa e).bind fun b => if b = true then .ok true else fb e
def bNot (fa : Env → Res Bool) : Env → Res Bool := fun e => (fa e).bind fun b => .ok (!b)
section
variable {X : Cx} {W : WX} {A : Nat → Prop} {a b : Expr} {rest : List Expr} {pos : Pos}
theorem dt_cmp {op : CmpOp} {fa fb : Env → Res D} {g : D → D → Res D} (ho : OpD X W (compareOp op) g) (ha : DR X W A a fa) (hb : DR X W A b fb) (hm : behindInMarks op b = false) : DT X W A (.Compare a [op] [b] pos) (bTest g fa fb) := by
  obtain ⟨r, h1, h2⟩ := ho
  refine (pt_cmpR h1 ha hb hm).imp fun σ H Q ⟨e, G, E, p⟩ => ?_
  refine ⟨e, G, E, p.split.imp fun dx H1 G1 x1 p1 v rv => ⟨e, G1, E.ext x1, p1.split.imp fun dy H2 G2 x2 p2 u ru => ?_⟩⟩
  refine h2 σ H2 G2 v u dx dy _ x2.gh (rv.mono x2.hh x2.gg) ru (p2.split.imp fun d H3 G3 x3 p3 z rz => ?_)
  cases d with
  | bl k => exact ⟨k, rz, p3.here x3.gh⟩
  | _ => exact (show False from p3).elim
theorem truth_v {K : PySem.W.Frag} {H G : Hp} {d : D} {v : V} {k : Bool} (g : Sub G H) (r : RepC K H G d v) (h : d.truth = .ok k) : TruV K v H k := by
  cases d with
  | non => have : v = .non := r; subst this; cases h; rfl
  | bl b => have : v = .bl b := r; subst this; cases h; rfl
  | int i => have : v = .int i := r; subst this; cases h; rfl
  | str x =>
    have : v = .str x := r
    subst this
    dsimp only [D.truth] at h
    by_cases hc : x.length ≤ sizeLine
    · rw [if_pos hc] at h; cases h; exact ⟨hc, rfl⟩
    · rw [if_neg hc] at h; cases h
  | lst xs =>
    obtain ⟨p, vs, e, s, q⟩ := r
    subst e
    cases h
    refine .inl ⟨vs, s, ?_⟩
    have := q.length
    cases vs <;> cases xs <;> simp at this ⊢
  | tup xs =>
    obtain ⟨p, vs, e, s, q⟩ := (show Rep K G (.tup xs) v from r)
    subst e
    cases h
    refine .inr (.inl ⟨vs, g.pt s, ?_⟩)
    have := q.length
    cases vs <;> cases xs <;> simp at this ⊢
  | obj _ => cases h
  | con _ => cases h
  | dct _ _ => cases h
theorem dt_truth {f : Env → Res D} (ha : DR X W A a f) (he : ∀ whole, isTrue a X.env whole = (do let v ← whole; standAt a.pos; holding [v] (truthy v))) : DT X W A a (bTruth f) :=
  (pt_truth ha he).imp fun σ H Q ⟨e, G, E, p⟩ => ⟨e, G, E, p.split.imp fun d H1 G1 x1 p1 v rv => by
    cases ht : d.truth with
    | ok k => rw [ht] at p1; exact ⟨k, truth_v x1.gh rv ht, p1.here x1.gh⟩
    | exc c fs => exact absurd ht (by cases d <;> simp [D.truth] <;> split <;> simp)
    | bad => rw [ht] at p1; exact p1.elim⟩
theorem dw_or1 {fa : Env → Res Bool} (ha : DT X W A a fa) : DW X W A (.BoolOp .Or [a] pos) fa := pw_or1 ha
theorem dw_or {fa fb : Env → Res Bool} (ha : DT X W A a fa) (hb : DW X W A (.BoolOp .Or (b :: rest) pos) fb) : DW X W A (.BoolOp .Or (a :: b :: rest) pos) (bOr fa fb) :=
  (pw_or ha hb).imp fun σ H Q ⟨e, G, E, p⟩ => ⟨e, G, E, p.split.imp fun k H1 G1 x1 p1 => by
    cases k with
    | true => rw [if_pos rfl] at p1 ⊢; exact p1.here x1.gh
    | false => rw [if_neg Bool.false_ne_true] at p1 ⊢; exact ⟨e, G1, E.ext x1, p1⟩⟩
theorem dt_w {f : Env → Res Bool} (h : DW X W A a f) : DT X W A a f := h.pt
theorem dt_not {fa : Env → Res Bool} (ha : DT X W A a fa) : DT X W A (.UnaryOp .Not a pos) (bNot fa) :=
  (pt_not ha).imp fun σ H Q ⟨e, G, E, p⟩ => ⟨e, G, E, p.split.imp fun k H1 G1 x1 p1 => p1.here x1.gh⟩

/-! ### and, or, not, if-else as values -/
def eAnd (fa fb : Env → Res D) : Env → Res D := fun e => (fa e).bind fun x => (D.asB x).bind fun b => if b = true then fb e else .ok (.bl false)
def eOr (fa fb : Env → Res D) : Env → Res D := fun e => (fa e).bind fun x => (D.asB x).bind fun b => if b = true then .ok (.bl true) else fb e
def eNot (fa : Env → Res D) : Env → Res D := fun e => (fa e).bind fun x => (D.asB x).bind fun b => .ok (.bl (!b))
def eNeg (fa : Env → Res D) : Env → Res D := fun e => (fa e).bind fun x => match x with
  | .int i => .ok (.int (-i))
  | _ => .bad
def eIf (ft : Env → Res Bool) (fa fb : Env → Res D) : Env → Res D := fun e => (ft e).bind fun b => if b = true then fa e else fb e
theorem asB_of {K : PySem.W.Frag} {mg : Str → Option Value} {W : Value → Option Addr → Hp → Prop} {H G : Hp} {d : D} {α : Type} {f : Bool → Res α} {R : α → Hp → Hp → Prop} (p : PostG K mg W H G ((D.asB d).bind f) R) : ∃ b, d = .bl b ∧ PostG K mg W H G (f b) R := by
  cases d with
  | bl b => exact ⟨b, rfl, p⟩
  | _ => exact (show False from p).elim
theorem de_one {op} {f : Env → Res D} (h : DE X W A a f) : DE X W A (.BoolOp op [a] pos) f := pe_one h
theorem de_and {fa fb : Env → Res D} (ha : DE X W A a fa) (hb : DE X W A (.BoolOp .And (b :: rest) pos) fb) : DE X W A (.BoolOp .And (a :: b :: rest) pos) (eAnd fa fb) :=
  (pe_and ha hb).imp fun σ H Q ⟨e, G, E, p⟩ => ⟨e, G, E, p.split.imp fun x H1 G1 x1 p1 v rv => by
    obtain ⟨k, rfl, p2⟩ := asB_of p1
    refine ⟨k, rv, ?_⟩
    cases k with
    | true => rw [if_pos rfl] at p2 ⊢; exact ⟨e, G1, E.ext x1, p2⟩
    | false => rw [if_neg Bool.false_ne_true] at p2 ⊢; exact p2.val x1.gh rfl⟩
theorem de_not {fa : Env → Res D} (ha : DE X W A a fa) : DE X W A (.UnaryOp .Not a pos) (eNot fa) :=
  (pe_not ha).imp fun σ H Q ⟨e, G, E, p⟩ => ⟨e, G, E, p.split.imp fun x H1 G1 x1 p1 v rv => by
    obtain ⟨k, rfl, p2⟩ := asB_of p1
    exact ⟨k, rv, p2.val x1.gh rfl⟩⟩
def bVal (f : Env → Res D) : Env → Res Bool := fun e => (f e).bind D.asB
/-! ### argument lists, displays -/
def aNil : Env → Res (List D) := fun _ => .ok []
def aCons (f : Env → Res D) (fs : Env → Res (List D)) : Env → Res (List D) := fun e => (f e).bind fun d => (fs e).bind fun ds => .ok (d :: ds)
theorem da_nil : DA X W A [] aNil := pa_nil.imp fun σ H Q ⟨e, G, E, p⟩ => p.here E.sub [] rfl
theorem da_cons {es : List Expr} {f : Env → Res D} {fs : Env → Res (List D)} (ha : DE X W A a f) (hr : DA X W A es fs) (hs : starEach (a :: es) X.env = (false, eval a X.env) :: starEach es X.env := by rfl) : DA X W A (a :: es) (aCons f fs) :=
  (pa_cons ha hr hs).imp fun σ H Q ⟨e, G, E, p⟩ => ⟨e, G, E, p.split.imp fun d H1 G1 x1 p1 v rv => ⟨e, G1, E.ext x1, p1.split.imp fun ds H2 G2 x2 p2 vs rs => p2.here x2.gh (v :: vs) (.cons (rv.mono x2.gg) rs)⟩⟩
def eTup (fs : Env → Res (List D)) : Env → Res D := fun e => (fs e).bind fun ds => .ok (.tup ds)
def eLst (fs : Env → Res (List D)) : Env → Res D := fun e => (fs e).bind fun ds => .ok (.lst ds)
/-- how long such a list is -/
def LenIs (fs : Env → Res (List D)) (n : Nat) : Prop := ∀ e ds, fs e = .ok ds → ds.length ≤ n
theorem len_nil : LenIs aNil 0 := fun e ds h => by cases h; exact Nat.le_refl _
theorem len_cons {f : Env → Res D} {fs : Env → Res (List D)} {n : Nat} (h : LenIs fs n) : LenIs (aCons f fs) (n + 1) := fun e ds q => by
  unfold aCons at q
  cases hf : f e with
  | ok d =>
    rw [hf] at q
    cases hs : fs e with
    | ok es => rw [hs] at q; cases q; exact Nat.succ_le_succ (h e es hs)
    | exc c x => rw [hs] at q; cases q
    | bad => rw [hs] at q; cases q
  | exc c x => rw [hf] at q; cases q
  | bad => rw [hf] at q; cases q
theorem PostG.ifok {K : PySem.W.Frag} {mg : Str → Option Value} {W : Value → Option Addr → Hp → Prop} {H G : Hp} {α : Type} {r : Res α} {R R' : α → Hp → Hp → Prop} (h : PostG K mg W H G r R) (f : ∀ a H' G', r = .ok a → Ext H G H' G' → R a H' G' → R' a H' G') : PostG K mg W H G r R' := by
  cases r with
  | ok a => exact fun H2 G2 y => f a H2 G2 rfl y (h H2 G2 y)
  | exc c fs => exact h
  | bad => exact h
theorem de_tup {es : List Expr} {x1} {fs : Env → Res (List D)} {n : Nat} (h : DA X W A es fs) (hl : LenIs fs n) (hn : n ≤ sizeLine) : DE X W A (.Tuple es x1 pos) (eTup fs) :=
  (pe_tup h).imp fun σ H Q ⟨e, G, E, p⟩ => ⟨e, G, E, p.split.ifok fun ds H1 G1 hk x1 p1 vs rs => ⟨by rw [rs.length]; exact Nat.le_trans (hl e ds hk) hn, fun q hq =>
    p1 _ _ (Ext.laid x1.gh hq) _ ⟨q, vs, rfl, upd_same, rs.mono (Sub.upd (x1.gh.free hq))⟩⟩⟩
theorem df_lst {es : List Expr} {fs : Env → Res (List D)} {n : Nat} (h : DA X W A es fs) (hl : LenIs fs n) (hn : n ≤ sizeLine) : DF X W A (.List es pos) (eLst fs) :=
  (pe_lst h).imp fun σ H Q ⟨e, G, E, p⟩ => ⟨e, G, E, p.split.ifok fun ds H1 G1 hk x1 p1 vs rs => ⟨by rw [rs.length]; exact Nat.le_trans (hl e ds hk) hn, fun q hq =>
    p1 (upd H1 q (.lst vs)) G1 ⟨Sub.upd hq, Sub.refl _, x1.gh.trans (Sub.upd hq), fun b z => .inl z⟩ q (x1.hh.free hq) (x1.gh.free hq) ⟨vs, upd_same, rs⟩⟩⟩

/-! ### subscripts -/
def dIx : D → D → Res D
  | .con xs, .int i => match atI xs i with
    | some d => .ok d
    | none => .bad
  | .tup xs, .int i => match atI xs i with
    | some d => .ok d
    | none => .bad
  | .lst xs, .int i => match atI xs i with
    | some d => .ok d
    | none => .bad
  | .str x, .int i => if x.length ≤ sizeLine then (match atI x.cps.toList i with
    | some c => .ok (.str ⟨#[c]⟩)
    | none => .bad) else .bad
  | _, _ => .bad
theorem atI_rep {K : PySem.W.Frag} {G : Hp} {ds : List D} {vs : List V} {i : Int} {d : D} (r : RepL K G ds vs) (h : atI ds i = some d) : ∃ v, atI vs i = some v ∧ Rep K G d v := by
  unfold atI at h ⊢
  rw [r.length]
  cases e : ixN ds.length i with
  | none => rw [e] at h; cases h
  | some j =>
    rw [e] at h
    have h' : ds[j]? = some d := h
    obtain ⟨v, h1, h2⟩ := r.get h'
    exact ⟨v, h1, h2⟩
theorem de_ix {fa fb : Env → Res D} (ha : DR X W A a fa) (hb : DR X W A b fb) (hs : PlainIx b) : DE X W A (.Subscript a b pos) (eOp dIx fa fb) := by
  refine (pe_ix (IxR.or ix_list (IxR.or ix_tup ix_str)) ha hb hs).imp (op_two rfl rfl fun σ H G x y dx dy Q sg rx ry p => ?_)
  cases dx with
  | tup ds =>
    cases dy with
    | int i =>
      obtain ⟨q, vs, e, s, r⟩ := (show Rep X.K G (.tup ds) x from rx)
      dsimp only [dIx] at p
      cases ha : atI ds i with
      | none => rw [ha] at p; exact p.elim
      | some d =>
        rw [ha] at p
        obtain ⟨v, h1, h2⟩ := atI_rep r ha
        exact .inr (.inl ⟨q, vs, i, v, e, ry, sg.pt s, h1, p.val sg h2⟩)
    | _ => exact (show False from p).elim
  | con ds =>
    cases dy with
    | int i =>
      obtain ⟨q, vs, e, s, r⟩ := (show Rep X.K G (.con ds) x from rx)
      dsimp only [dIx] at p
      cases ha : atI ds i with
      | none => rw [ha] at p; exact p.elim
      | some d =>
        rw [ha] at p
        obtain ⟨v, h1, h2⟩ := atI_rep r ha
        exact .inr (.inl ⟨q, vs, i, v, e, ry, sg.sqt s.sqt, h1, p.val sg h2⟩)
    | _ => exact (show False from p).elim
  | lst ds =>
    cases dy with
    | int i =>
      obtain ⟨q, vs, e, s, r⟩ := rx
      dsimp only [dIx] at p
      cases ha : atI ds i with
      | none => rw [ha] at p; exact p.elim
      | some d =>
        rw [ha] at p
        obtain ⟨v, h1, h2⟩ := atI_rep r ha
        exact .inl ⟨q, vs, i, v, e, ry, s, h1, p.val sg h2⟩
    | _ => exact (show False from p).elim
  | str z =>
    cases dy with
    | int i =>
      dsimp only [dIx] at p
      by_cases hz : z.length ≤ sizeLine
      · rw [if_pos hz] at p
        cases ha : atI z.cps.toList i with
        | none => rw [ha] at p; exact p.elim
        | some c =>
          rw [ha] at p
          exact .inr (.inr ⟨z, i, c, rx, ry, hz, ha, p.val sg rfl⟩)
      · rw [if_neg hz] at p; exact p.elim
    | _ => exact (show False from p).elim
  | _ => exact (show False from p).elim
end
end DL

namespace DL
open PySem PySem.Spec PyProof.Rows L2
open PySem.Builtin.Int (intBits)

/-! ### slices -/
def tO (K : PySem.W.Frag) (mg : Str → Option Value) (W : WX) (A : Nat → Prop) (f : Env → Res (Option Int)) : TO := fun σ H Q => ∃ e G, EnvG K A σ e H G ∧ PostG K mg (fun c o H' => W c o σ H') H G (f e) fun b H' G' => Q b H'
abbrev DO (X : Cx) (W : WX) (A : Nat → Prop) (ex : Option Expr) (f : Env → Res (Option Int)) : Prop := PO X ex (tO X.K X.mg W A f)
theorem _root_.L2.PO.imp {X : Cx} {e : Option Expr} {t t' : TO} (h : PO X e t) (f : ∀ σ H Q, t' σ H Q → t σ H Q) : PO X e t' := ⟨fun pins s σ H Q I q => h.run pins s σ H Q I (f σ H Q q)⟩
def oNone : Env → Res (Option Int) := fun _ => .ok none
def oSome (f : Env → Res D) : Env → Res (Option Int) := fun e => (f e).bind fun d => match d with
  | .int i => .ok (some i)
  | _ => .bad
def cutL {α : Type} (xs : List α) (lo hi : Option Int) : List α := (xs.drop (HT.sIx xs.length 0 lo)).take (HT.sIx xs.length xs.length hi - HT.sIx xs.length 0 lo)
def dCut (lo hi : Option Int) : D → Res D
  | .tup xs => .ok (.tup (cutL xs lo hi))
  | .lst xs => .ok (.lst (cutL xs lo hi))
  | .str x => if x.length ≤ sizeLine then .ok (.str (cutS x lo hi)) else .bad
  | _ => .bad
def eCut (f : Env → Res D) (fl fh : Env → Res (Option Int)) : Env → Res D := fun e => (f e).bind fun d => (fl e).bind fun lo => (fh e).bind fun hi => dCut lo hi d
theorem cutL_all {α : Type} {xs : List α} {lo hi : Option Int} (h : HT.sIx xs.length 0 lo = 0 ∧ HT.sIx xs.length xs.length hi = xs.length) : cutL xs lo hi = xs := by
  unfold cutL
  rw [h.1, h.2]
  simp
theorem RepL.cut {K : PySem.W.Frag} {G : Hp} {ds : List D} {vs : List V} (lo hi : Option Int) (h : RepL K G ds vs) : RepL K G (cutL ds lo hi) (cutV vs lo hi) := by
  unfold cutL cutV
  rw [h.length]
  exact (h.drop _).take _
section
variable {X : Cx} {W : WX} {A : Nat → Prop} {a b : Expr} {lo hi : Option Expr} {rest : List Expr} {pos p2 : Pos}
theorem do_none : DO X W A none oNone := po_none.imp fun σ H Q ⟨e, G, E, p⟩ => p.here E.sub
theorem do_some {f : Env → Res D} (h : DE X W A a f) : DO X W A (some a) (oSome f) :=
  (po_some h).imp fun σ H Q ⟨e, G, E, p⟩ => ⟨e, G, E, p.split.imp fun d H1 G1 x1 p1 v rv => by
    cases d with
    | int i => exact ⟨i, rv, p1.here x1.gh⟩
    | _ => exact (show False from p1).elim⟩
theorem de_cut {f : Env → Res D} {fl fh : Env → Res (Option Int)} (ha : DR X W A a f) (hl : DO X W A lo fl) (hh : DO X W A hi fh) : DE X W A (.Subscript a (.Slice lo hi none p2) pos) (eCut f fl fh) := by
  refine (pe_slice (SlR.or sl_tupA (SlR.or sl_list sl_str)) ha hl hh).imp fun σ H Q ⟨e, G, E, p⟩ => ?_
  refine ⟨e, G, E, p.split.imp fun d H1 G1 x1 p1 v rv => ⟨e, G1, E.ext x1, p1.split.imp fun l H2 G2 x2 p2 => ⟨e, G2, (E.ext x1).ext x2, p2.split.imp fun u H3 G3 x3 p3 => ?_⟩⟩⟩
  have rv := (rv.mono x2.hh x2.gg).mono x3.hh x3.gg
  have sg := x3.gh
  cases d with
  | tup ds =>
    obtain ⟨q, vs, eq, s, r⟩ := (show Rep X.K G3 (.tup ds) v from rv)
    refine .inl ⟨q, vs, eq, sg.pt s, fun hw => ?_, fun hw q2 hq => ?_⟩
    · refine PostG.val (d := .tup (cutL ds l u)) p3 sg ⟨q, vs, rfl, s, ?_⟩
      rw [r.length] at hw
      rw [cutL_all hw]
      exact r
    · exact (show PostG X.K X.mg _ H3 G3 (Res.ok (D.tup (cutL ds l u))) _ from p3) _ _ (Ext.laid sg hq) _ ⟨q2, _, rfl, upd_same, (r.cut l u).mono (Sub.upd (sg.free hq))⟩
  | lst ds =>
    obtain ⟨q, vs, eq, s, r⟩ := rv
    refine .inr (.inl ⟨q, vs, eq, s, fun q2 hq => ?_⟩)
    exact (show PostG X.K X.mg _ H3 G3 (Res.ok (D.lst (cutL ds l u))) _ from p3) _ _ (Ext.laid sg hq) _ ⟨q2, _, rfl, SqL.of upd_same, (r.cut l u).mono (Sub.upd (sg.free hq))⟩
  | str z =>
    dsimp only [dCut] at p3
    by_cases hz : z.length ≤ sizeLine
    · rw [if_pos hz] at p3
      exact .inr (.inr ⟨z, rv, hz, p3.val sg rfl⟩)
    · rw [if_neg hz] at p3; exact p3.elim
  | _ => exact (show False from p3).elim
end

/-! ### calls of built-ins -/
def e1 (g : D → Res D) (f : Env → Res D) : Env → Res D := fun e => (f e).bind g
/-- a call of one value: what it does on data -/
def Call1 (X : Cx) (W : WX) (f : Value) (g : D → Res D) : Prop :=
  ∃ r, CallR X f r ∧ ∀ (σ : L2.St) (H G : Hp) (x : V) (dx : D) (Q : VK), Sub G H → RepC X.K H G dx x →
    PostG X.K X.mg (fun c o H' => W c o σ H') H G (g dx) (fun d H' G' => ∀ v, Rep X.K G' d v → Q v H') → r [x] H Q
/-- .. that makes a new list or dict -/
def Call1F (X : Cx) (W : WX) (f : Value) (g : D → Res D) : Prop :=
  ∃ r, CallR X f r ∧ ∀ (σ : L2.St) (H G : Hp) (x : V) (dx : D) (Q : VK), Sub G H → RepC X.K H G dx x →
    PostG X.K X.mg (fun c o H' => W c o σ H') H G (g dx) (fun d H' G' => ∀ a, H a = none → G' a = none → OwnC X.K H' G' d a → Q (.ref a) H') → r [x] H Q
section
variable {X : Cx} {W : WX} {A : Nat → Prop} {a b : Expr} {rest : List Expr} {x : Str} {p pos : Pos} {id T : String}
theorem de_b1 {g : D → Res D} {f : Env → Res D} (hc : Call1 X W (.builtin id) g) (hg : Gl X x) (hm : X.mg x = none) (hv : bootBuiltins x = some (.builtin id)) (ha : DR X W A a f) (hn : x ≠ "__name__" := by decide) (hdb : (x == ("__debug__" : Str)) = false := by decide)
    (he : starEach (a :: []) X.env = (false, eval a X.env) :: starEach [] X.env := by rfl) (hpl : (backTo pos (starEach [] X.env)).any (·.1) = false := by rfl) : DE X W A (.Call (.Name x p) [a] [] pos) (e1 g f) := by
  obtain ⟨r, h1, h2⟩ := hc
  exact (pe_callB h1 hg hm hv (pa_cons ha pa_nil he) hn hdb he hpl).imp fun σ H Q ⟨e, G, E, p⟩ => ⟨e, G, E, p.split.imp fun d H1 G1 x1 p1 v rv => h2 σ H1 G1 v d Q x1.gh rv p1⟩
theorem de_t1 {g : D → Res D} {f : Env → Res D} (hc : Call1 X W (.type T) g) (hg : Gl X x) (hm : X.mg x = none) (hv : bootBuiltins x = some (.type T)) (ha : DR X W A a f) (hn : x ≠ "__name__" := by decide) (hdb : (x == ("__debug__" : Str)) = false := by decide)
    (he : starEach (a :: []) X.env = (false, eval a X.env) :: starEach [] X.env := by rfl) (hpl : (backTo pos (starEach [] X.env)).any (·.1) = false := by rfl) : DE X W A (.Call (.Name x p) [a] [] pos) (e1 g f) := by
  obtain ⟨r, h1, h2⟩ := hc
  exact (pe_callTy h1 hg hm hv (pa_cons ha pa_nil he) hn hdb he hpl).imp fun σ H Q ⟨e, G, E, p⟩ => ⟨e, G, E, p.split.imp fun d H1 G1 x1 p1 v rv => h2 σ H1 G1 v d Q x1.gh rv p1⟩
theorem df_b1 {g : D → Res D} {f : Env → Res D} (hc : Call1F X W (.builtin id) g) (hg : Gl X x) (hm : X.mg x = none) (hv : bootBuiltins x = some (.builtin id)) (ha : DR X W A a f) (hn : x ≠ "__name__" := by decide) (hdb : (x == ("__debug__" : Str)) = false := by decide)
    (he : starEach (a :: []) X.env = (false, eval a X.env) :: starEach [] X.env := by rfl) (hpl : (backTo pos (starEach [] X.env)).any (·.1) = false := by rfl) : DF X W A (.Call (.Name x p) [a] [] pos) (e1 g f) := by
  obtain ⟨r, h1, h2⟩ := hc
  exact (pe_callB h1 hg hm hv (pa_cons ha pa_nil he) hn hdb he hpl).imp fun σ H Q ⟨e, G, E, p⟩ => ⟨e, G, E, p.split.imp fun d H1 G1 x1 p1 v rv => h2 σ H1 G1 v d Q x1.gh rv (p1.imp fun z H2 G2 x2 q c hc => q c (x1.hh.free hc))⟩
/-! len, abs, max, min, int, list, tuple, sum .. -/
def rLenD : List V → Hp → VK → Prop := fun xs H Q => ∃ a n, xs = [V.ref a] ∧ ((∃ kvs, Rd H a (.dK kvs) ∧ n = kvs.length) ∨ ∃ kvs, Rd H a (.dT kvs) ∧ n = kvs.length) ∧ Q (.int ((n : Nat) : Int)) H
theorem cr_lenD : CallR X (.builtin "len") rLenD := by
  intro pins s σ H xs us Q I r h
  obtain ⟨a, n, rfl, hd, q⟩ := h
  obtain ⟨u, rfl, rx⟩ := vals1 r
  obtain rfl : u = .ref a := rx
  rcases hd with ⟨kvs, hk, rfl⟩ | ⟨kvs, hk, rfl⟩
  · exact d_len I hk fun t s' I' => ⟨.int _, H, I', ⟨_, rfl⟩, q⟩
  · obtain ⟨z, hd, ys, rel, dd⟩ := dt_rd I.hok hk
    have hl : kvs.length = ys.length := Paired.length rel
    refine call_len_dictH hd dd (by rw [← hl]; rw [PySem.sizeLine_eq] at z; omega) ?_
    rw [← hl]
    exact ⟨.int ((kvs.length : Nat) : Int), H, I.tok _, ⟨_, rfl⟩, q⟩
def dLen : D → Res D
  | .lst xs => .ok (.int xs.length)
  | .tup xs => .ok (.int xs.length)
  | .con xs => .ok (.int xs.length)
  | .str x => if x.length ≤ sizeLine then .ok (.int x.length) else .bad
  | .dct _ kvs => .ok (.int kvs.length)
  | _ => .bad
theorem c1_len : Call1 X W (.builtin "len") dLen := by
  refine ⟨_, CallR.or call_len cr_lenD, fun σ H G x dx Q sg rx p => ?_⟩
  cases dx with
  | lst ds =>
    obtain ⟨q, vs, e, s, r⟩ := rx
    subst e
    refine .inl ⟨_, vs.length, rfl, .inl ⟨vs, s, rfl⟩, ?_⟩
    rw [r.length]
    exact PostG.val (d := .int ds.length) p sg rfl
  | tup ds =>
    obtain ⟨q, vs, e, s, r⟩ := (show Rep X.K G (.tup ds) x from rx)
    subst e
    refine .inl ⟨_, vs.length, rfl, .inr ⟨vs, sg.pt s, rfl⟩, ?_⟩
    rw [r.length]
    exact PostG.val (d := .int ds.length) p sg rfl
  | con ds =>
    obtain ⟨q, vs, e, s, r⟩ := (show Rep X.K G (.con ds) x from rx)
    subst e
    refine .inl ⟨_, vs.length, rfl, .inr ⟨vs, sg.sqt s.sqt, rfl⟩, ?_⟩
    rw [r.length]
    exact PostG.val (d := .int ds.length) p sg rfl
  | dct t kvs =>
    obtain ⟨a, e, h⟩ := rx
    subst e
    have p' : Q (.int ((kvs.length : Nat) : Int)) H := PostG.val (d := .int kvs.length) p sg rfl
    rcases h with ⟨_, ps, h1, h2, _⟩ | ⟨_, ps, h1, h2, _⟩
    · have hl := congrArg List.length h2
      rw [List.length_map, List.length_map] at hl
      exact .inr ⟨a, ps.length, rfl, .inl ⟨ps, h1, rfl⟩, by rw [← hl]; exact p'⟩
    · have hl := congrArg List.length h2
      rw [List.length_map, List.length_map] at hl
      exact .inr ⟨a, ps.length, rfl, .inr ⟨ps, h1, rfl⟩, by rw [← hl]; exact p'⟩
  | str z =>
    have : x = .str z := rx
    subst this
    dsimp only [dLen] at p
    by_cases hz : z.length ≤ sizeLine
    · rw [if_pos hz] at p
      exact .inl ⟨_, z.length, rfl, ⟨hz, rfl⟩, p.val sg rfl⟩
    · rw [if_neg hz] at p; exact p.elim
  | _ => exact (show False from p).elim
def dAbs : D → Res D
  | .int i => .ok (.int (if i < 0 then -i else i))
  | _ => .bad
theorem c1_abs : Call1 X W (.builtin "abs") dAbs := by
  refine ⟨_, call_abs, fun σ H G x dx Q sg rx p => ?_⟩
  cases dx with
  | int i =>
    have : x = .int i := rx
    subst this
    exact ⟨i, rfl, PostG.val (d := .int (if i < 0 then -i else i)) p sg rfl⟩
  | _ => exact (show False from p).elim
def dMax : D → D → Res D
  | .int i, .int j => .ok (.int (if j > i then j else i))
  | _, _ => .bad
def dMin : D → D → Res D
  | .int i, .int j => .ok (.int (if j < i then j else i))
  | _, _ => .bad
def dTuple : D → Res D
  | .lst xs => .ok (.tup xs)
  | .tup xs => .ok (.tup xs)
  | .con xs => .ok (.con xs)
  | _ => .bad
theorem c1_tuple : Call1 X W (.type "tuple") dTuple := by
  refine ⟨_, call_tuple_of, fun σ H G x dx Q sg rx p => ?_⟩
  cases dx with
  | lst ds =>
    obtain ⟨q, vs, e, s, r⟩ := rx
    subst e
    refine ⟨q, vs, rfl, .inl ⟨s, fun l hl => ?_⟩⟩
    exact (show PostG X.K X.mg _ H G (Res.ok (D.tup ds)) _ from p) _ _ (Ext.laid sg hl) _ ⟨l, vs, rfl, upd_same, r.mono (Sub.upd (sg.free hl))⟩
  | tup ds =>
    have rx : Rep X.K G (.tup ds) x := rx
    obtain ⟨q, vs, e, s, r⟩ := id rx
    subst e
    exact ⟨q, vs, rfl, .inr ⟨sg.pt s, PostG.val (d := .tup ds) p sg rx⟩⟩
  | con ds =>
    have rx : Rep X.K G (.con ds) x := rx
    obtain ⟨q, vs, e, s, r⟩ := id rx
    subst e
    exact ⟨q, vs, rfl, .inr ⟨sg.sqt s.sqt, PostG.val (d := .con ds) p sg rx⟩⟩
  | _ => exact (show False from p).elim
def dList : D → Res D
  | .lst xs => .ok (.lst xs)
  | .tup xs => .ok (.lst xs)
  | .con xs => .ok (.lst xs)
  | _ => .bad
/-- the ints of a list of ints -/
def D.ints : List D → Option (List Int)
  | [] => some []
  | .int i :: r => (D.ints r).map fun ns => i :: ns
  | _ :: _ => none
theorem ints_eq : ∀ {ds : List D} {ns : List Int}, D.ints ds = some ns → ds = ns.map D.int
  | [], ns, h => by cases h; rfl
  | d :: r, ns, h => by
    cases d with
    | int i =>
      dsimp only [D.ints] at h
      cases e : D.ints r with
      | none => rw [e] at h; cases h
      | some ms => rw [e] at h; cases h; rw [ints_eq e]; rfl
    | _ => cases h
@[simp] theorem ints_map : ∀ ns : List Int, D.ints (ns.map D.int) = some ns
  | [] => rfl
  | n :: r => by show (D.ints (r.map D.int)).map _ = _; rw [ints_map r]; rfl
def D.bls : List D → Option (List Bool)
  | [] => some []
  | .bl i :: r => (D.bls r).map fun ns => i :: ns
  | _ :: _ => none
@[simp] theorem bls_map : ∀ ns : List Bool, D.bls (ns.map D.bl) = some ns
  | [] => rfl
  | n :: r => by show (D.bls (r.map D.bl)).map _ = _; rw [bls_map r]; rfl
def dSum : D → Res D
  | .lst xs => match D.ints xs with
    | some ns => .ok (.int ns.sum)
    | none => .bad
  | _ => .bad
theorem c1_sum (hc : X.calm = true) : Call1 X W (.builtin "sum") dSum := by
  refine ⟨_, cr_sum hc, fun σ H G x dx Q sg rx p => ?_⟩
  cases dx with
  | lst ds =>
    obtain ⟨q, vs, e, s, r⟩ := rx
    subst e
    dsimp only [dSum] at p
    cases hi : D.ints ds with
    | none => rw [hi] at p; exact p.elim
    | some ns =>
      rw [hi] at p
      rw [ints_eq hi] at r
      rw [r.ints] at s
      exact ⟨q, ns, rfl, s, p.val sg rfl⟩
  | _ => exact (show False from p).elim
end
end DL

namespace DL
open PySem PySem.Spec PyProof.Rows L2
open PySem.Builtin.Int (intBits)

/-! ### statements -/
inductive Out where
  | nx (e : Env)
  | rt (d : D)
  | ro (d : D)
  | rm (d : D) (e : Env)
  | bk (e : Env)
  | ct (e : Env)
  | ex (c : String) (fs : List D) (e : Env)
  | bad

def unown (i : Nat) (e : Env) : Env := match e[i]? with
  | some (some (d, true)) => e.set i (some (d, false))
  | _ => e
/-- these names' lists and dicts are not changed any more -/
def fz : List Nat → Env → Env
  | [], e => e
  | i :: r, e => fz r (unown i e)
@[simp] theorem fz_nil (e : Env) : fz [] e = e := rfl
theorem unown_get (i : Nat) (e : Env) (j : Nat) : (unown i e)[j]? = if j = i then (match e[j]? with | some (some (d, _)) => some (some (d, false)) | z => z) else e[j]? := by
  unfold unown
  by_cases h : j = i
  · subst h
    rw [if_pos rfl]
    cases q : e[j]? with
    | none => simp only [q]
    | some s =>
      have hl : j < e.length := (List.getElem?_eq_some_iff.mp q).1
      cases s with
      | none => simp only [q]
      | some z =>
        obtain ⟨d, o⟩ := z
        cases o with
        | true => simp only []; rw [List.getElem?_set_self hl]
        | false => simp only [q]
  · rw [if_neg h]
    split
    · rw [List.getElem?_set_ne (Ne.symm h)]
    · rfl
theorem unown_length (i : Nat) (e : Env) : (unown i e).length = e.length := by
  unfold unown
  split
  · rw [List.length_set]
  · rfl
theorem fz_length : ∀ (al : List Nat) (e : Env), (fz al e).length = e.length
  | [], e => rfl
  | i :: r, e => by rw [fz, fz_length r, unown_length]
theorem fz_get : ∀ (al : List Nat) (e : Env) (j : Nat) (d : D) (o : Bool), (fz al e)[j]? = some (some (d, o)) → ∃ o', e[j]? = some (some (d, o')) ∧ ((o = o' ∧ (o' = true → j ∉ al)) ∨ (o = false ∧ o' = true ∧ j ∈ al))
  | [], e, j, d, o, h => ⟨o, h, .inl ⟨rfl, fun _ => by simp⟩⟩
  | i :: r, e, j, d, o, h => by
    obtain ⟨o1, h1, h2⟩ := fz_get r (unown i e) j d o h
    rw [unown_get] at h1
    by_cases hj : j = i
    · rw [if_pos hj] at h1
      cases q : e[j]? with
      | none => rw [q] at h1; cases h1
      | some s => cases s with
        | none => rw [q] at h1; cases h1
        | some z =>
          obtain ⟨d', o'⟩ := z
          rw [q] at h1
          cases h1
          rcases h2 with ⟨rfl, _⟩ | ⟨_, z, _⟩
          · cases o' with
            | true => exact ⟨true, rfl, .inr ⟨rfl, rfl, by simp [hj]⟩⟩
            | false => exact ⟨false, rfl, .inl ⟨rfl, fun z => by cases z⟩⟩
          · cases z
    · rw [if_neg hj] at h1
      refine ⟨o1, h1, ?_⟩
      rcases h2 with ⟨a, b⟩ | ⟨a, b, c⟩
      · exact .inl ⟨a, fun z => by simp [hj, b z]⟩
      · exact .inr ⟨a, b, by simp [c]⟩

/-- a def's entry: the caller's part of the heap, and where the lists and dicts stand that are lent to it to be changed -/
structure Bas where
  hp : Hp
  pin : Nat → Option Addr
/-- nothing is lent -/
abbrev Bas.of (H : Hp) : Bas := ⟨H, fun _ => none⟩
/-- the state between two statements: H0, G0 at the def's entry -/
structure StOk (K : PySem.W.Frag) (H0 : Bas) (G0 : Hp) (σ : L2.St) (e : Env) (H G : Hp) : Prop where
  ext : Ext H0.hp G0 H G
  len : σ.length = e.length
  sh : ∀ (i : Nat) d, e[i]? = some (some (d, false)) → ∃ v, σ[i]? = some (some v) ∧ Rep K G d v
  ow : ∀ (i : Nat) d, e[i]? = some (some (d, true)) → ∃ a, σ[i]? = some (some (.ref a)) ∧ H0.hp a = none ∧ G a = none ∧ OwnC K H G d a
  ne : ∀ (i j : Nat) d d' a, e[i]? = some (some (d, true)) → e[j]? = some (some (d', true)) → σ[i]? = some (some (.ref a)) → σ[j]? = some (some (.ref a)) → i = j
  pn : ∀ (i : Nat) a d, H0.pin i = some a → e[i]? = some (some (d, true)) → σ[i]? = some (some (.ref a))
/-- what a reckoning of the names at al may keep -/
def OwnAt (σ : L2.St) (e : Env) (al : List Nat) (b : Addr) : Prop := ∃ (i : Nat) (d : D), i ∈ al ∧ e[i]? = some (some (d, true)) ∧ σ[i]? = some (some (.ref b))
open Classical in
noncomputable def gA (σ : L2.St) (e : Env) (al : List Nat) (H G : Hp) : Hp := fun b => if OwnAt σ e al b then H b else G b
/-- no dict at al is owned -/
def NoDct (al : List Nat) (e : Env) : Prop := ∀ (i : Nat) d, i ∈ al → e[i]? = some (some (d, true)) → d.isDct = false
theorem StOk.exp0 {K : PySem.W.Frag} {H0 : Bas} {G0 H G : Hp} {σ : L2.St} {e : Env} (S : StOk K H0 G0 σ e H G) (al : List Nat) (nd : NoDct al e) :
    ∃ GA, EnvG K (fun i => i ∈ al) σ e H GA ∧ ∀ H' G', Ext H GA H' G' → StOk K H0 G0 σ (fz al e) H' G' := by
  have yes : ∀ {b : Addr}, OwnAt σ e al b → gA σ e al H G b = H b := fun h => if_pos h
  have no : ∀ {b : Addr}, ¬ OwnAt σ e al b → gA σ e al H G b = G b := fun h => if_neg h
  have gown : ∀ {b : Addr}, OwnAt σ e al b → G b = none := fun {b} ⟨i, d, _, h1, h2⟩ => by
    obtain ⟨a, q1, _, q2, _⟩ := S.ow i d h1
    rw [h2] at q1; cases q1; exact q2
  have s1 : Sub G (gA σ e al H G) := fun b o q => by
    by_cases h : OwnAt σ e al b
    · rw [gown h] at q; cases q
    · rw [no h]; exact q
  have s2 : Sub (gA σ e al H G) H := fun b o q => by
    by_cases h : OwnAt σ e al b
    · rw [yes h] at q; exact q
    · rw [no h] at q; exact S.ext.gh _ _ q
  have keep : ∀ (i : Nat) (d : D), i ∈ al → e[i]? = some (some (d, true)) → ∃ v, σ[i]? = some (some v) ∧ Rep K (gA σ e al H G) d v := fun i d hi h => by
    obtain ⟨a, q1, _, _, q5⟩ := S.ow i d h
    exact ⟨_, q1, q5.put (nd i d hi h) s1 (yes ⟨i, d, hi, h, q1⟩)⟩
  refine ⟨gA σ e al H G, ⟨s2, S.len, fun i d o h => ?_⟩, fun H' G' x => ?_⟩
  · cases o with
    | false =>
      obtain ⟨v, q1, q2⟩ := S.sh i d h
      exact ⟨v, q1, fun _ => q2.mono s1, (q2.c S.ext.gh).mono (Sub.refl _) s1⟩
    | true =>
      obtain ⟨a, q1, q2, q3, q5⟩ := S.ow i d h
      refine ⟨_, q1, fun z => ?_, q5.c.mono (Sub.refl _) s1⟩
      rcases z with z | z
      · exact q5.put (nd i d z h) s1 (yes ⟨i, d, z, h, q1⟩)
      · cases z
  · refine ⟨⟨S.ext.hh.trans x.hh, S.ext.gg.trans (s1.trans x.gg), x.gh, fun b z => ?_⟩, by rw [fz_length]; exact S.len, fun i d h => ?_, fun i d h => ?_, fun i j d d' a h1 h2 h3 h4 => ?_, fun i a d hp h => ?_⟩
    · rcases x.new b z with z | z
      · by_cases h : OwnAt σ e al b
        · obtain ⟨i, d, _, h1, h2⟩ := h
          obtain ⟨a, q1, q2, _⟩ := S.ow i d h1
          rw [h2] at q1; cases q1; exact .inr (.inl q2)
        · rw [no h] at z; exact S.ext.new b z
      · exact .inr (z.back S.ext.hh)
    · obtain ⟨o', h1, h2⟩ := fz_get al e i d false h
      rcases h2 with ⟨rfl, _⟩ | ⟨_, rfl, hi⟩
      · obtain ⟨v, q1, q2⟩ := S.sh i d h1
        exact ⟨v, q1, q2.mono (s1.trans x.gg)⟩
      · obtain ⟨v, q1, q2⟩ := keep i d hi h1
        exact ⟨v, q1, q2.mono x.gg⟩
    · obtain ⟨o', h1, h2⟩ := fz_get al e i d true h
      rcases h2 with ⟨rfl, hi⟩ | ⟨z, _⟩
      · obtain ⟨a, q1, q2, q3, q5⟩ := S.ow i d h1
        refine ⟨a, q1, q2, ?_, q5.mono x.hh (s1.trans x.gg)⟩
        cases hg : G' a with
        | none => rfl
        | some u =>
          rcases x.new a (by rw [hg]; simp) with z | z
          · have nown : ¬ OwnAt σ e al a := fun ⟨j, d', hj, w1, w2⟩ => hi rfl (by rw [S.ne i j d d' a h1 w1 q1 w2]; exact hj)
            rw [no nown] at z
            exact absurd q3 z
          · exact absurd z q5.nfr
      · cases z
    · obtain ⟨o1, w1, z1⟩ := fz_get al e i d true h1
      obtain ⟨o2, w2, z2⟩ := fz_get al e j d' true h2
      have e1 : o1 = true := by rcases z1 with ⟨z, _⟩ | ⟨z, _⟩; exact z.symm; cases z
      have e2 : o2 = true := by rcases z2 with ⟨z, _⟩ | ⟨z, _⟩; exact z.symm; cases z
      subst e1 e2
      exact S.ne i j d d' a w1 w2 h3 h4
    · obtain ⟨o1, w1, z1⟩ := fz_get al e i d true h
      have e1 : o1 = true := by rcases z1 with ⟨z, _⟩ | ⟨z, _⟩; exact z.symm; cases z
      subst e1
      exact S.pn i a d hp w1

theorem set_get {α : Type} {e : List α} {i j : Nat} {x y : α} (h : (e.set i x)[j]? = some y) : (j = i ∧ y = x) ∨ (j ≠ i ∧ e[j]? = some y) := by
  by_cases hj : j = i
  · subst hj
    by_cases hl : j < e.length
    · rw [List.getElem?_set_self hl] at h; cases h; exact .inl ⟨rfl, rfl⟩
    · rw [List.getElem?_eq_none (by simpa using hl)] at h; cases h
  · rw [List.getElem?_set_ne (Ne.symm hj)] at h; exact .inr ⟨hj, h⟩
/-! the dicts at al are locked -/
def unownD (i : Nat) (e : Env) : Env := match e[i]? with
  | some (some (.dct t kvs, true)) => e.set i (some (.dct t kvs, false))
  | _ => e
def fzD : List Nat → Env → Env
  | [], e => e
  | i :: r, e => fzD r (unownD i e)
theorem unownD_get (i : Nat) (e : Env) (j : Nat) (d : D) (o : Bool) (h : (unownD i e)[j]? = some (some (d, o))) : ∃ o', e[j]? = some (some (d, o')) ∧ ((o = o' ∧ (o' = true → j = i → d.isDct = false)) ∨ (o = false ∧ o' = true ∧ j = i)) := by
  unfold unownD at h
  split at h
  · rename_i t kvs he
    by_cases hj : j = i
    · subst hj
      have hl : j < e.length := (List.getElem?_eq_some_iff.mp he).1
      rw [List.getElem?_set_self hl] at h
      cases h
      exact ⟨true, he, .inr ⟨rfl, rfl, rfl⟩⟩
    · rw [List.getElem?_set_ne (Ne.symm hj)] at h
      exact ⟨o, h, .inl ⟨rfl, fun _ z => absurd z hj⟩⟩
  · rename_i hn
    refine ⟨o, h, .inl ⟨rfl, fun z w => ?_⟩⟩
    subst z w
    cases d with
    | dct t kvs => exact absurd h (hn t kvs)
    | _ => rfl
theorem fzD_length : ∀ (al : List Nat) (e : Env), (fzD al e).length = e.length
  | [], e => rfl
  | i :: r, e => by
    rw [fzD, fzD_length r]
    unfold unownD
    split
    · rw [List.length_set]
    · rfl
theorem fzD_get : ∀ (al : List Nat) (e : Env) (j : Nat) (d : D) (o : Bool), (fzD al e)[j]? = some (some (d, o)) → ∃ o', e[j]? = some (some (d, o')) ∧ ((o = o' ∧ (o' = true → j ∈ al → d.isDct = false)) ∨ (o = false ∧ o' = true ∧ j ∈ al))
  | [], e, j, d, o, h => ⟨o, h, .inl ⟨rfl, fun _ z => by cases z⟩⟩
  | i :: r, e, j, d, o, h => by
    obtain ⟨o1, h1, h2⟩ := fzD_get r (unownD i e) j d o h
    obtain ⟨o2, h3, h4⟩ := unownD_get i e j d o1 h1
    refine ⟨o2, h3, ?_⟩
    rcases h2 with ⟨rfl, a⟩ | ⟨rfl, rfl, a⟩
    · rcases h4 with ⟨rfl, b⟩ | ⟨rfl, rfl, rfl⟩
      · refine .inl ⟨rfl, fun z w => ?_⟩
        rcases List.mem_cons.mp w with w | w
        · exact b z w
        · exact a z w
      · exact .inr ⟨rfl, rfl, List.mem_cons_self⟩
    · rcases h4 with ⟨rfl, b⟩ | ⟨z, _, _⟩
      · exact .inr ⟨rfl, rfl, List.mem_cons_of_mem _ a⟩
      · cases z
theorem fzD_keep : ∀ (al : List Nat) (e : Env) (j : Nat) (d : D) (o : Bool), e[j]? = some (some (d, o)) → ∃ o', (fzD al e)[j]? = some (some (d, o')) ∧ (o = false → o' = false)
  | [], e, j, d, o, h => ⟨o, h, id⟩
  | i :: r, e, j, d, o, h => by
    have step : ∃ o', (unownD i e)[j]? = some (some (d, o')) ∧ (o = false → o' = false) := by
      unfold unownD
      split
      · rename_i t kvs he
        by_cases hj : j = i
        · subst hj
          have hl : j < e.length := (List.getElem?_eq_some_iff.mp he).1
          rw [he] at h; cases h
          exact ⟨false, List.getElem?_set_self hl, fun _ => rfl⟩
        · exact ⟨o, by rw [List.getElem?_set_ne (Ne.symm hj)]; exact h, id⟩
      · exact ⟨o, h, id⟩
    obtain ⟨o1, h1, h2⟩ := step
    obtain ⟨o2, h3, h4⟩ := fzD_keep r (unownD i e) j d o1 h1
    exact ⟨o2, h3, fun z => h4 (h2 z)⟩
theorem fzD_none : ∀ (al : List Nat) (e : Env) (j : Nat), (∀ d o, e[j]? ≠ some (some (d, o))) → (fzD al e)[j]? = e[j]?
  | [], e, j, h => rfl
  | i :: r, e, j, h => by
    have step : (unownD i e)[j]? = e[j]? := by
      unfold unownD
      split
      · rename_i t kvs he
        by_cases hj : j = i
        · subst hj; exact absurd he (h _ _)
        · rw [List.getElem?_set_ne (Ne.symm hj)]
      · rfl
    rw [fzD, fzD_none r (unownD i e) j (fun d o => by rw [step]; exact h d o), step]
/-- the flags alone are other -/
theorem env_ext {a b : Env} (h : ∀ j : Nat, a[j]? = b[j]?) : a = b := List.ext_getElem? h
theorem fz_is (al : List Nat) (e : Env) (j : Nat) (d : D) (o : Bool) (h : e[j]? = some (some (d, o))) : (fz al e)[j]? = some (some (d, if j ∈ al then false else o)) := by
  induction al generalizing e o with
  | nil => rw [if_neg (by simp)]; exact h
  | cons i r ih =>
    rw [fz]
    have hu : (unown i e)[j]? = some (some (d, if j = i then false else o)) := by
      rw [unown_get]
      by_cases hj : j = i
      · rw [if_pos hj, h, if_pos hj]
      · rw [if_neg hj, h, if_neg hj]
    rw [ih _ _ hu]
    by_cases h1 : j ∈ r
    · rw [if_pos h1, if_pos (List.mem_cons_of_mem _ h1)]
    · rw [if_neg h1]
      by_cases h2 : j = i
      · rw [if_pos h2, if_pos (by simp [h2])]
      · rw [if_neg h2, if_neg (by simp [h1, h2])]
theorem fz_none (al : List Nat) (e : Env) (j : Nat) (h : ∀ d o, e[j]? ≠ some (some (d, o))) : (fz al e)[j]? = e[j]? := by
  induction al generalizing e with
  | nil => rfl
  | cons i r ih =>
    have step : (unown i e)[j]? = e[j]? := by
      rw [unown_get]
      by_cases hj : j = i
      · rw [if_pos hj]
        split
        · rename_i d o he; exact absurd he (h d o)
        · rfl
      · rw [if_neg hj]
    rw [fz, ih _ (fun d o => by rw [step]; exact h d o), step]
theorem fz_fzD (al : List Nat) (e : Env) : fz al (fzD al e) = fz al e := env_ext fun j => by
  by_cases h : ∃ d o, e[j]? = some (some (d, o))
  · obtain ⟨d, o, h⟩ := h
    obtain ⟨o1, h1, h2⟩ := fzD_keep al e j d o h
    obtain ⟨o2, h3, h4⟩ := fzD_get al e j d o1 h1
    rw [h] at h3; cases h3
    rw [fz_is al _ j d o1 h1, fz_is al e j d o h]
    by_cases hj : j ∈ al
    · rw [if_pos hj, if_pos hj]
    · rw [if_neg hj, if_neg hj]
      rcases h4 with ⟨rfl, _⟩ | ⟨_, _, z⟩
      · rfl
      · exact absurd z hj
  · have n : ∀ d o, e[j]? ≠ some (some (d, o)) := fun d o z => h ⟨d, o, z⟩
    have n2 := fzD_none al e j n
    rw [fz_none al _ j (fun d o => by rw [n2]; exact n d o), fz_none al e j n, n2]
theorem fzD_nd (al : List Nat) (e : Env) : NoDct al (fzD al e) := fun i d hi h => by
  obtain ⟨o', h1, h2⟩ := fzD_get al e i d true h
  rcases h2 with ⟨rfl, z⟩ | ⟨z, _⟩
  · exact z rfl hi
  · cases z
theorem StOk.lock {K : PySem.W.Frag} {H0 : Bas} {G0 : Hp} {σ : L2.St} : ∀ (al : List Nat) {e : Env} {H G : Hp}, StOk K H0 G0 σ e H G → LockT (fun H1 => ∃ G1, StOk K H0 G0 σ (fzD al e) H1 G1) H
  | [], _, _, G, S => .here ⟨G, S⟩
  | i :: r, e, H, G, S => by
    have step : LockT (fun H1 => ∃ G1, StOk K H0 G0 σ (unownD i e) H1 G1) H := by
      unfold unownD
      split
      · rename_i t kvs he
        obtain ⟨a, q1, q2, q3, q5⟩ := S.ow i _ he
        obtain ⟨u, hu, mu, _⟩ := q5.lock rfl (Sub.refl G)
        refine .lock hu mu fun od => .here ⟨upd G a (.frz od u), ?_⟩
        have sg : Sub G (upd G a (.frz od u)) := Sub.upd q3
        have n0 : ∀ {b o}, H0.hp b = some o → b ≠ a := fun {b o} z w => by rw [w, q2] at z; cases z
        refine ⟨⟨fun b o z => by rw [upd_ne (n0 z)]; exact S.ext.hh _ _ z, S.ext.gg.trans sg, fun b o z => ?_, fun b z => ?_⟩, by rw [List.length_set]; exact S.len, fun j d' h => ?_, fun j d' h => ?_, fun j k d1 d2 b h1 h2 h3 h4 => ?_, fun j b d' hp h => ?_⟩
        · by_cases hb : b = a
          · subst hb; rw [upd_same] at z ⊢; exact z
          · rw [upd_ne hb] at z ⊢; exact S.ext.gh _ _ z
        · by_cases hb : b = a
          · subst hb; exact .inr (.inl q2)
          · rw [upd_ne hb] at z; exact S.ext.new b z
        · rcases set_get h with ⟨rfl, z⟩ | ⟨hj, z⟩
          · cases z
            obtain ⟨u', hu', _, k⟩ := q5.lock rfl sg
            rw [hu] at hu'; cases hu'
            exact ⟨_, q1, k od upd_same⟩
          · obtain ⟨v, w1, w2⟩ := S.sh j d' z
            exact ⟨v, w1, w2.mono sg⟩
        · rcases set_get h with ⟨_, z⟩ | ⟨hj, z⟩
          · cases z
          · obtain ⟨b, w1, w2, w3, w4⟩ := S.ow j d' z
            have nb : b ≠ a := fun q => hj (S.ne j i d' _ a z he (by rw [w1, q]) q1)
            exact ⟨b, w1, w2, by rw [upd_ne nb]; exact w3, w4.mono' (fun o' z => by rw [upd_ne nb]; exact z) sg⟩
        · rcases set_get h1 with ⟨_, z⟩ | ⟨hj, z1⟩
          · cases z
          · rcases set_get h2 with ⟨_, z⟩ | ⟨hk, z2⟩
            · cases z
            · exact S.ne j k d1 d2 b z1 z2 h3 h4
        · rcases set_get h with ⟨_, z⟩ | ⟨hj, z⟩
          · cases z
          · exact S.pn j b d' hp z
      · exact .here ⟨G, S⟩
    exact step.bind fun H1 ⟨G1, S1⟩ => StOk.lock r S1
theorem fz_fzD_own {al : List Nat} {e : Env} {j : Nat} {d : D} (h : (fz al e)[j]? = some (some (d, true))) : (fzD al e)[j]? = some (some (d, true)) := by
  rw [← fz_fzD] at h
  obtain ⟨o', w1, w2⟩ := fz_get al _ j d true h
  have e1 : o' = true := by rcases w2 with ⟨z, _⟩ | ⟨z, _⟩; exact z.symm; cases z
  rw [e1] at w1
  exact w1
/-- a reckoning's state: the dicts that are handed on are locked -/
theorem StOk.exp {K : PySem.W.Frag} {H0 : Bas} {G0 H G : Hp} {σ : L2.St} {e : Env} (S : StOk K H0 G0 σ e H G) (al : List Nat) :
    LockT (fun H1 => ∃ G1 GA, StOk K H0 G0 σ (fzD al e) H1 G1 ∧ EnvG K (fun i => i ∈ al) σ e H1 GA ∧ ∀ H' G', Ext H1 GA H' G' → StOk K H0 G0 σ (fz al e) H' G') H :=
  (S.lock al).imp fun H1 ⟨G1, S1⟩ => by
    obtain ⟨GA, E, nxt⟩ := S1.exp0 al (fzD_nd al e)
    refine ⟨G1, GA, S1, ⟨E.sub, by rw [E.len, fzD_length], fun i d o h => ?_⟩, fun H' G' x => by rw [← fz_fzD]; exact nxt H' G' x⟩
    obtain ⟨o1, h1, h2⟩ := fzD_keep al e i d o h
    obtain ⟨v, w1, w2, w3⟩ := E.val i d o1 h1
    exact ⟨v, w1, fun z => w2 (z.imp id h2), w3⟩

/-! a name is stored -/
section
variable {K : PySem.W.Frag} {H0 : Bas} {G0 H G : Hp} {σ : L2.St} {e : Env}
theorem StOk.lt (S : StOk K H0 G0 σ e H G) {i : Nat} {s : Sl} {x : Sl} (h : (e.set i x)[i]? = some s) : i < σ.length := by
  by_cases hl : i < e.length
  · rw [S.len]; exact hl
  · rw [List.getElem?_eq_none (by simpa using hl)] at h; cases h
theorem StOk.set (S : StOk K H0 G0 σ e H G) (i : Nat) {d : D} {v : V} (r : Rep K G d v) : StOk K H0 G0 (σ.set i (some v)) (e.set i (some (d, false))) H G := by
  refine ⟨S.ext, by rw [List.length_set, List.length_set]; exact S.len, fun j d' h => ?_, fun j d' h => ?_, fun j k d1 d2 a h1 h2 h3 h4 => ?_, fun j a d' hp h => ?_⟩
  · rcases set_get h with ⟨rfl, z⟩ | ⟨hj, z⟩
    · cases z
      exact ⟨v, List.getElem?_set_self (S.lt h), r⟩
    · obtain ⟨w, q1, q2⟩ := S.sh j d' z
      exact ⟨w, by rw [List.getElem?_set_ne (Ne.symm hj)]; exact q1, q2⟩
  · rcases set_get h with ⟨_, z⟩ | ⟨hj, z⟩
    · cases z
    · obtain ⟨a, q1, q2⟩ := S.ow j d' z
      exact ⟨a, by rw [List.getElem?_set_ne (Ne.symm hj)]; exact q1, q2⟩
  · rcases set_get h1 with ⟨_, z⟩ | ⟨hj, z1⟩
    · cases z
    · rcases set_get h2 with ⟨_, z⟩ | ⟨hk, z2⟩
      · cases z
      · rw [List.getElem?_set_ne (Ne.symm hj)] at h3
        rw [List.getElem?_set_ne (Ne.symm hk)] at h4
        exact S.ne j k d1 d2 a z1 z2 h3 h4
  · rcases set_get h with ⟨_, z⟩ | ⟨hj, z⟩
    · cases z
    · rw [List.getElem?_set_ne (Ne.symm hj)]; exact S.pn j a d' hp z
theorem StOk.setF (S : StOk K H0 G0 σ e H G) (i : Nat) {d : D} {a : Addr} {Hb : Hp} (hb : Sub H0.hp Hb) (ho : ∀ (j : Nat) d b, e[j]? = some (some (d, true)) → σ[j]? = some (some (.ref b)) → Hb b ≠ none) (ha : Hb a = none) (ga : G a = none) (rc : OwnC K H G d a) (hpin : H0.pin i = none) :
    StOk K H0 G0 (σ.set i (some (.ref a))) (e.set i (some (d, true))) H G := by
  have other : ∀ (j : Nat) d' b, e[j]? = some (some (d', true)) → σ[j]? = some (some (.ref b)) → b ≠ a := fun j d' b h1 h2 z => ho j d' b h1 h2 (by rw [z]; exact ha)
  refine ⟨S.ext, by rw [List.length_set, List.length_set]; exact S.len, fun j d' h => ?_, fun j d' h => ?_, fun j k d1 d2 b h1 h2 h3 h4 => ?_, fun j b d' hp h => ?_⟩
  · rcases set_get h with ⟨_, z⟩ | ⟨hj, z⟩
    · cases z
    · obtain ⟨w, q1, q2⟩ := S.sh j d' z
      exact ⟨w, by rw [List.getElem?_set_ne (Ne.symm hj)]; exact q1, q2⟩
  · rcases set_get h with ⟨rfl, z⟩ | ⟨hj, z⟩
    · cases z
      exact ⟨a, List.getElem?_set_self (S.lt h), hb.free ha, ga, rc⟩
    · obtain ⟨b, q1, q2⟩ := S.ow j d' z
      exact ⟨b, by rw [List.getElem?_set_ne (Ne.symm hj)]; exact q1, q2⟩
  · rcases set_get h1 with ⟨rfl, z1⟩ | ⟨hj, z1⟩
    · rw [List.getElem?_set_self (S.lt h1)] at h3
      cases h3
      rcases set_get h2 with ⟨e2, _⟩ | ⟨hk, z2⟩
      · exact e2.symm
      · rw [List.getElem?_set_ne (Ne.symm hk)] at h4
        exact absurd rfl (other k d2 a z2 h4)
    · rw [List.getElem?_set_ne (Ne.symm hj)] at h3
      rcases set_get h2 with ⟨rfl, _⟩ | ⟨hk, z2⟩
      · rw [List.getElem?_set_self (S.lt h2)] at h4
        cases h4
        exact absurd rfl (other j d1 a z1 h3)
      · rw [List.getElem?_set_ne (Ne.symm hk)] at h4
        exact S.ne j k d1 d2 b z1 z2 h3 h4
  · rcases set_get h with ⟨rfl, _⟩ | ⟨hj, z⟩
    · rw [hpin] at hp; cases hp
    · rw [List.getElem?_set_ne (Ne.symm hj)]; exact S.pn j b d' hp z
/-- the list or dict of a name is changed -/
theorem StOk.change (S : StOk K H0 G0 σ e H G) {i : Nat} {d d' : D} {a : Addr} {o : HO} (h : e[i]? = some (some (d, true))) (hs : σ[i]? = some (some (.ref a))) (rc : OwnC K (upd H a o) G d' a) :
    StOk K H0 G0 σ (e.set i (some (d', true))) (upd H a o) G := by
  obtain ⟨a', q1, q2, q3, q5⟩ := S.ow i d h
  rw [hs] at q1; cases q1
  have il : i < e.length := (List.getElem?_eq_some_iff.mp h).1
  have nG : ∀ {b u}, G b = some u → b ≠ a := fun {b u} z w => by rw [w, q3] at z; cases z
  have n0 : ∀ {b u}, H0.hp b = some u → b ≠ a := fun {b u} z w => by rw [w, q2] at z; cases z
  refine ⟨⟨fun b u z => by rw [upd_ne (n0 z)]; exact S.ext.hh _ _ z, S.ext.gg, fun b u z => by rw [upd_ne (nG z)]; exact S.ext.gh _ _ z, S.ext.new⟩, by rw [List.length_set]; exact S.len, fun j d1 h1 => ?_, fun j d1 h1 => ?_, fun j k d1 d2 b h1 h2 h3 h4 => ?_, fun j b d1 hp h1 => ?_⟩
  · rcases set_get h1 with ⟨_, z⟩ | ⟨hj, z⟩
    · cases z
    · exact S.sh j d1 z
  · rcases set_get h1 with ⟨rfl, z⟩ | ⟨hj, z⟩
    · cases z
      exact ⟨a, hs, q2, q3, rc⟩
    · obtain ⟨b, w1, w2, w3, w5⟩ := S.ow j d1 z
      have nb : b ≠ a := fun q => hj (S.ne j i d1 d b z h w1 (by rw [q]; exact hs))
      exact ⟨b, w1, w2, w3, w5.mono' (fun o' z => by rw [upd_ne nb]; exact z) (Sub.refl _)⟩
  · have k1 : ∃ d', e[j]? = some (some (d', true)) := by
      rcases set_get h1 with ⟨rfl, _⟩ | ⟨_, z⟩
      · exact ⟨d, h⟩
      · exact ⟨_, z⟩
    have k2 : ∃ d', e[k]? = some (some (d', true)) := by
      rcases set_get h2 with ⟨rfl, _⟩ | ⟨_, z⟩
      · exact ⟨d, h⟩
      · exact ⟨_, z⟩
    obtain ⟨x1, y1⟩ := k1
    obtain ⟨x2, y2⟩ := k2
    exact S.ne j k x1 x2 b y1 y2 h3 h4
  · rcases set_get h1 with ⟨rfl, _⟩ | ⟨_, z⟩
    · exact S.pn j b d hp h
    · exact S.pn j b d1 hp z
end
end DL

namespace DL
open PySem PySem.Spec PyProof.Rows L2
open PySem.Builtin.Int (intBits)

def SPost (K : PySem.W.Frag) (mg : Str → Option Value) (W : WX) (H0 : Bas) (G0 : Hp) (r : Out) (Z : Ends) : Prop := match r with
  | .nx e' => ∀ σ' H' G', StOk K H0 G0 σ' e' H' G' → Z.nx σ' H'
  | .bk e' => ∀ σ' H' G', StOk K H0 G0 σ' e' H' G' → Z.bk σ' H'
  | .ct e' => ∀ σ' H' G', StOk K H0 G0 σ' e' H' G' → Z.ct σ' H'
  | .rt d => ∀ v H' G', Ext H0.hp G0 H' G' → Rep K G' d v → Z.rt v H'
  | .ro d => ∀ a H' G', Ext H0.hp G0 H' G' → H0.hp a = none → G' a = none → OwnC K H' G' d a → Z.rt (.ref a) H'
  | .rm d e' => ∀ v σ' H' G', StOk K H0 G0 σ' e' H' G' → Rep K G' d v → Z.rt v H'
  | .ex c fs e' => ∀ cls o σ' H' G' H'', StOk K H0 G0 σ' e' H' G' → Sub H' H'' → IsExc K mg c fs cls o H'' → W cls o σ' H''
  | .bad => False
def tS (K : PySem.W.Frag) (mg : Str → Option Value) (W : WX) (H0 : Bas) (G0 : Hp) (f : Env → Out) : TS := fun Z σ H => ∃ e G, StOk K H0 G0 σ e H G ∧ SPost K mg W H0 G0 (f e) Z
abbrev DS (X : Cx) (W : WX) (H0 : Bas) (G0 : Hp) (st : Stmt) (f : Env → Out) : Prop := PS X st (tS X.K X.mg W H0 G0 f)
abbrev DSs (X : Cx) (W : WX) (H0 : Bas) (G0 : Hp) (st : List Stmt) (f : Env → Out) : Prop := PSs X st (tS X.K X.mg W H0 G0 f)

/-- a reckoning, then what follows -/
def sE {α : Type} (al : List Nat) (f : Env → Res α) (k : α → Env → Out) : Env → Out := fun e => match f e with
  | .ok a => k a (fz al e)
  | .exc c fs => .ex c fs (fz al e)
  | .bad => .bad
section
variable {X : Cx} {W : WX} {H0 : Bas} {G0 : Hp}
theorem sE_step {al : List Nat} {α : Type} {f : Env → Res α} {k : α → Env → Out} {σ : L2.St} {H : Hp} {Z : Ends} (h : tS X.K X.mg W H0 G0 (sE al f k) Z σ H) :
    LockT (fun H => ∃ e G, EnvG X.K (fun i => i ∈ al) σ e H G ∧ PostG X.K X.mg (fun c o H' => W c o σ H') H G (f e) fun a H' G' => StOk X.K H0 G0 σ (fz al e) H' G' ∧ SPost X.K X.mg W H0 G0 (k a (fz al e)) Z) H := by
  obtain ⟨e, G, S, p⟩ := h
  refine (S.exp al).imp fun H ⟨G1, GA, S1, E, nxt⟩ => ?_
  refine ⟨e, GA, E, ?_⟩
  unfold sE at p
  cases hr : f e with
  | ok a =>
    rw [hr] at p
    exact fun H' G' x => ⟨nxt H' G' x, p⟩
  | exc c fs =>
    rw [hr] at p
    exact fun cls o H' s ix => p cls o σ H GA H' (nxt H GA (Ext.refl E.sub)) s ix
  | bad =>
    rw [hr] at p
    exact p.elim

/-! ### the plain statements -/
variable {al : List Nat} {st : Stmt} {rest : List Stmt} {ex : Expr} {pos : Pos}
def sSkip : Env → Out := fun e => .nx e
def sSeq (f g : Env → Out) : Env → Out := fun e => match f e with
  | .nx e' => g e'
  | r => r
theorem dss_nil : DSs X W H0 G0 [] sSkip := pss_nil.imp fun Z σ H ⟨e, G, S, p⟩ => p σ H G S
theorem dss_cons {f g : Env → Out} (h1 : DS X W H0 G0 st f) (h2 : DSs X W H0 G0 rest g) : DSs X W H0 G0 (st :: rest) (sSeq f g) :=
  (pss_cons h1 h2).imp fun Z σ H ⟨e, G, S, p⟩ => ⟨e, G, S, by
    unfold sSeq at p
    cases hr : f e with
    | nx e' => rw [hr] at p; exact fun σ' H' G' S' => ⟨e', G', S', p⟩
    | rt d => rw [hr] at p; exact p
    | ro d => rw [hr] at p; exact p
    | rm d e' => rw [hr] at p; exact p
    | bk e' => rw [hr] at p; exact p
    | ct e' => rw [hr] at p; exact p
    | ex c fs e' => rw [hr] at p; exact p
    | bad => rw [hr] at p; exact p⟩
def sBreak : Env → Out := fun e => .bk e
def sCont : Env → Out := fun e => .ct e
def sRet (al : List Nat) (f : Env → Res D) : Env → Out := sE al f fun d _ => .rt d
theorem ds_ret {f : Env → Res D} (h : DE X W (fun i => i ∈ al) ex f) : DS X W H0 G0 (.Return (some ex) pos) (sRet al f) :=
  (ps_ret h).lk fun Z σ H hq => (sE_step hq).imp fun H ⟨e, G, E, p⟩ => by
    exact ⟨e, G, E, p.imp fun d H' G' x ⟨S, q⟩ v r => q v H' G' S.ext r⟩
/-- return x, x a list or dict of its own -/
def sRetO (i : Nat) : Env → Out := fun e => match e[i]? with
  | some (some (d, true)) => .ro d
  | some (some (d, false)) => .rt d
  | _ => .bad
/-- return of a new list or dict -/
def sRetF (al : List Nat) (f : Env → Res D) : Env → Out := sE al f fun d _ => .ro d
def sRetN : Env → Out := fun _ => .rt .non
def sIf (al : List Nat) (ft : Env → Res Bool) (f g : Env → Out) : Env → Out := sE al ft fun b e => if b = true then f e else g e
theorem ds_if {c : Expr} {a b : List Stmt} {ft : Env → Res Bool} {f g : Env → Out} (hc : DT X W (fun i => i ∈ al) c ft) (ha : DSs X W H0 G0 a f) (hb : DSs X W H0 G0 b g) : DS X W H0 G0 (.If c a b pos) (sIf al ft f g) :=
  (ps_if hc ha hb).lk fun Z σ H hq => (sE_step hq).imp fun H ⟨e, G, E, p⟩ => by
    refine ⟨e, G, E, p.imp fun k H' G' x ⟨S, q⟩ => ?_⟩
    cases k with
    | true => rw [if_pos rfl] at q ⊢; exact ⟨_, G', S, q⟩
    | false => rw [if_neg Bool.false_ne_true] at q ⊢; exact ⟨_, G', S, q⟩
def sDrop (al : List Nat) (f : Env → Res D) : Env → Out := sE al f fun _ e => .nx e
/-- x = e -/
def sSet (al : List Nat) (i : Nat) (f : Env → Res D) : Env → Out := sE al f fun d e => .nx (e.set i (some (d, false)))
theorem ds_set {i : Nat} {x : Str} {pos' : Pos} {f : Env → Res D} (hN : X.N.Nodup) (hi : X.N[i]? = some x) (hx : Loc X.env.scope x) (h : DE X W (fun i => i ∈ al) ex f) (hs : swapsWith ex (some (.Name x pos')) pos.line X.env = pure false := by rfl)
    (hf : X.fn x = true ∨ X.env.scope.names.lookup x = some .local := by first | exact .inl rfl | exact .inr rfl | assumption) : DS X W H0 G0 (.Assign [.Name x pos'] ex pos) (sSet al i f) :=
  (ps_set hN hi hx h hs hf).lk fun Z σ H hq => (sE_step hq).imp fun H ⟨e, G, E, p⟩ => by
    exact ⟨e, G, E, p.imp fun d H' G' _ ⟨S, q⟩ v r => q _ H' G' (S.set i r)⟩
/-- x = a new list or dict, to be changed -/
def sSetF (al : List Nat) (i : Nat) (f : Env → Res D) : Env → Out := sE al f fun d e => .nx (e.set i (some (d, true)))
theorem ds_setF {i : Nat} {x : Str} {pos' : Pos} {f : Env → Res D} (hN : X.N.Nodup) (hi : X.N[i]? = some x) (hx : Loc X.env.scope x) (h : DF X W (fun i => i ∈ al) ex f) (hs : swapsWith ex (some (.Name x pos')) pos.line X.env = pure false := by rfl)
    (hf : X.fn x = true ∨ X.env.scope.names.lookup x = some .local := by first | exact .inl rfl | exact .inr rfl | assumption) (hpin : H0.pin i = none := by rfl) : DS X W H0 G0 (.Assign [.Name x pos'] ex pos) (sSetF al i f) :=
  (ps_set hN hi hx h hs hf).lk fun Z σ H ⟨e, G, S, p⟩ => (S.exp al).imp fun H ⟨G1, GA, S1, E, nxt⟩ => by
    refine ⟨e, GA, E, ?_⟩
    unfold sSetF sE at p
    cases hr : f e with
    | ok d =>
      rw [hr] at p
      intro H' G' x a ha ga rc
      have S' := nxt H' G' x
      refine p _ H' G' (S'.setF i (Hb := H) S1.ext.hh (fun j d' b h1 h2 => ?_) ha ga rc hpin)
      have w1 := fz_fzD_own h1
      obtain ⟨a', q1, _, _, q4⟩ := S1.ow j d' w1
      rw [h2] at q1; cases q1
      exact q4.is
    | exc c fs =>
      rw [hr] at p
      exact fun cls o H' s ix => p cls o σ H GA H' (nxt H GA (Ext.refl E.sub)) s ix
    | bad => rw [hr] at p; exact p.elim

/-! ### a, b = e -/
inductive Pat where
  | nm (i : Nat)
  | tp (ps : List Pat)
mutual
def Pat.bind : Pat → D → Env → Res Env
  | .nm i, d, e => .ok (e.set i (some (d, false)))
  | .tp ps, d, e => match d with
    | .tup ds => Pat.binds ps ds e
    | _ => .bad
def Pat.binds : List Pat → List D → Env → Res Env
  | [], [], e => .ok e
  | p :: ps, d :: ds, e => (Pat.bind p d e).bind fun e' => Pat.binds ps ds e'
  | _, _, _ => .bad
end
mutual
def Pat.slots : Pat → List Nat
  | .nm i => [i]
  | .tp ps => Pat.slotss ps
def Pat.slotss : List Pat → List Nat
  | [] => []
  | p :: ps => Pat.slots p ++ Pat.slotss ps
end
/-- what stays where a name of these is stored -/
def Setable (K : PySem.W.Frag) (sl : List Nat) (R : L2.St → Env → Hp → Hp → Prop) : Prop := ∀ σ e H G i d v, i ∈ sl → R σ e H G → Rep K G d v → R (σ.set i (some v)) (e.set i (some (d, false))) H G
/-- a target's reading: it stores by the pattern -/
def DG (X : Cx) (tg : Expr) (p : Pat) : Prop :=
  ∃ g, PG X tg g ∧ ∀ (R : L2.St → Env → Hp → Hp → Prop), Setable X.K p.slots R → ∀ (v : V) (σ : L2.St) (H G : Hp) (d : D) (e e' : Env) (Q : L2.St → Hp → Prop), R σ e H G → Sub G H → Rep X.K G d v → p.bind d e = .ok e' → (∀ σ', R σ' e' H G → Q σ' H) → g v σ H Q
theorem dg_name {i : Nat} {x : Str} (hN : X.N.Nodup) (hi : X.N[i]? = some x) (hx : Loc X.env.scope x) (hf : X.fn x = true ∨ X.env.scope.names.lookup x = some .local := by first | exact .inl rfl | exact .inr rfl | assumption) : DG X (.Name x pos) (.nm i) :=
  ⟨_, pg_name hN hi hx hf, fun R hR v σ H G d e e' Q S sg r h q => by
    cases h
    exact q _ (hR σ e H G i d v (by simp [Pat.slots]) S r)⟩
theorem st_setable {K : PySem.W.Frag} {sl : List Nat} : Setable K sl (StOk K H0 G0) := fun σ e H G i d v _ S r => S.set i r
def sAsg (al : List Nat) (p : Pat) (f : Env → Res D) : Env → Out := sE al f fun d e => match p.bind d e with
  | .ok e' => .nx e'
  | _ => .bad
/-! ### lists changed in place -/
/-- the list that the name i holds, to be changed -/
def ownL (i : Nat) (e : Env) (k : List D → Out) : Out := match e[i]? with
  | some (some (.lst xs, true)) => k xs
  | _ => .bad
theorem StOk.ownL {σ : L2.St} {e : Env} {H G : Hp} {K : PySem.W.Frag} (S : StOk K H0 G0 σ e H G) {i : Nat} {xs : List D} (h : e[i]? = some (some (.lst xs, true))) : ∃ a vs, σ[i]? = some (some (.ref a)) ∧ H a = some (.lst vs) ∧ RepL K G xs vs := by
  obtain ⟨a, q1, q2, q3, vs, e, r⟩ := S.ow i _ h
  exact ⟨a, vs, q1, e, r⟩
end
end DL

namespace DL
open PySem PySem.Spec PyProof.Rows L2
open PySem.Builtin.Int (intBits)
section
variable {X : Cx} {W : WX} {H0 : Bas} {G0 : Hp} {al : List Nat} {ex : Expr} {es : List Expr} {pos apos cpos p1 p2 : Pos}
/-- a method that changes its list -/
def MutL (X : Cx) (id : String) (g : List D → List D → Option (List D)) : Prop :=
  ∃ r, MtR X id r ∧ ∀ (G H : Hp) (a : Addr) (xs : List D) (vs : List V) (ds : List D) (ws : List V) (xs' : List D) (Q : Hp → Prop), Sub G H → H a = some (.lst vs) → RepL X.K G xs vs → RepL X.K G ds ws → g xs ds = some xs' →
    (∀ vs', RepL X.K G xs' vs' → Q (upd H a (.lst vs'))) → r (.ref a) ws H fun _ H' => Q H'
def sMut (al : List Nat) (i : Nat) (g : List D → List D → Option (List D)) (fs : Env → Res (List D)) : Env → Out := fun e => ownL i (fz al e) fun xs => sE al fs (fun ds e' => match g xs ds with
  | some xs' => .nx (e'.set i (some (.lst xs', true)))
  | none => .bad) e
theorem ownL_inv {i : Nat} {e : Env} {k : List D → Out} {Z : Ends} {K : PySem.W.Frag} {mg : Str → Option Value} (p : SPost K mg W H0 G0 (ownL i e k) Z) : ∃ xs, e[i]? = some (some (.lst xs, true)) ∧ SPost K mg W H0 G0 (k xs) Z := by
  unfold ownL at p
  split at p
  · rename_i xs h; exact ⟨xs, h, p⟩
  · exact p.elim
theorem ds_mut {i : Nat} {x name : Str} {id : String} {g : List D → List D → Option (List D)} {fs : Env → Res (List D)} (slot : Slot "list" name id) (hty : typeOf (.builtin id) = pure (.type "method_descriptor")) (hm : MutL X id g)
    (hN : X.N[i]? = some x) (hv : Vis X.env.scope x) (h : DA X W (fun i => i ∈ al) (ex :: es) fs)
    (hd : (x == ("__debug__" : Str)) = false := by decide) (hcd : (x == ("__classdict__" : Str)) = false := by decide)
    (hbase : attributeBase (.Name x p1) name X.env (eval (.Name x p1) X.env) = eval (.Name x p1) X.env := by rfl)
    (hfew : ((backTo cpos (starEach (ex :: es) X.env)).all (fun x => !x.1) && (backToKw cpos (keywordEach [] X.env)).all (fun x => x.1.isSome)
      && decide ((ex :: es).length + ([] : List Keyword).length + (if ([] : List Keyword).isEmpty then 0 else 1) < 30)) = true := by rfl)
    (hline : (apos.endLine == cpos.line) = true := by rfl) (hs : starEach (ex :: es) X.env = (false, eval ex X.env) :: starEach es X.env := by rfl) (hplain : (backTo cpos (starEach es X.env)).any (·.1) = false := by rfl)
    (hsw : swapsWith (.Call (.Attribute (.Name x p1) name apos) (ex :: es) [] cpos) none pos.line X.env = pure false := by rfl) :
    DS X W H0 G0 (.Expr (.Call (.Attribute (.Name x p1) name apos) (ex :: es) [] cpos) pos) (sMut al i g fs) := by
  obtain ⟨r, m1, m2⟩ := hm
  refine (ps_expr (pe_bm PySem.F.plainAttrs_list slot hty m1 (pe_var hN hv hd hcd) h hbase hfew hline hs hplain) hsw).lk fun Z σ H ⟨e, G, S, p⟩ => (S.exp al).imp fun H ⟨G1, GA, S0, E, nxt⟩ => ?_
  have S1 := nxt H GA (Ext.refl E.sub)
  obtain ⟨xs, hx, p⟩ := ownL_inv p
  obtain ⟨a, vs, q1, q2, q3⟩ := S1.ownL hx
  refine ⟨.ref a, q1, .inl ⟨rfl, vs, SqL.of q2⟩, e, GA, E, ?_⟩
  unfold sE at p
  cases hr : fs e with
  | exc c fs' =>
    rw [hr] at p
    exact fun cls o H' s ix => p cls o σ H GA H' S1 s ix
  | bad => rw [hr] at p; exact p.elim
  | ok ds =>
    rw [hr] at p
    intro H' G' x ws rw
    have S2 := nxt H' G' x
    cases hg : g xs ds with
    | none => simp only [hg] at p; exact p.elim
    | some xs' =>
      simp only [hg] at p
      exact m2 G' H' a xs vs ds ws xs' (fun H3 => Z.nx σ H3) x.gh (x.hh _ _ q2) (q3.mono x.gg) rw hg fun vs' r' => p σ _ G' (S2.change hx q1 ⟨vs', upd_same, r'⟩)
def gAppend : List D → List D → Option (List D) := fun xs ds => match ds with
  | [d] => if xs.length < sizeLine then some (xs ++ [d]) else none
  | _ => none
theorem mut_append : MutL X "list.append" gAppend := by
  refine ⟨_, mt_append, fun G H a xs vs ds ws xs' Q sg ha r1 r2 hg q => ?_⟩
  match ds, hg with
  | [d], hg =>
    obtain ⟨w, _, rfl, rw, e⟩ := r2
    have e : _ = [] := e
    subst e
    dsimp only [gAppend] at hg
    by_cases hc : xs.length < sizeLine
    · rw [if_pos hc] at hg
      cases hg
      exact ⟨a, vs, w, rfl, rfl, ha, by rw [r1.length]; exact hc, q _ (r1.append (.cons rw .nil))⟩
    · rw [if_neg hc] at hg; cases hg
/-- xs[i] = v -/
def sPutL (al : List Nat) (i : Nat) (fk fv : Env → Res D) : Env → Out := fun e => ownL i (fz al e) fun xs => sE al (fun e => (fv e).bind fun v => (fk e).bind fun k => .ok (k, v)) (fun kv e' => match kv.1 with
  | .int k => match ixN xs.length k with
    | some j => .nx (e'.set i (some (.lst (xs.set j kv.2), true)))
    | none => .bad
  | _ => .bad) e
theorem ds_putL {i : Nat} {x : Str} {ik ev : Expr} {fk fv : Env → Res D} (hN : X.N[i]? = some x) (hv : Vis X.env.scope x) (hk : DE X W (fun i => i ∈ al) ik fk) (he : DE X W (fun i => i ∈ al) ev fv)
    (hd : (x == ("__debug__" : Str)) = false := by decide) (hcd : (x == ("__classdict__" : Str)) = false := by decide)
    (ha : ∀ v, assign (.Subscript (.Name x p1) ik p2) X.env v = (do
      let ov ← holding [v] (eval (.Name x p1) X.env)
      let iv ← holding [v, ov] (eval ik X.env)
      standAt p2
      holding [v, ov, iv] (setItem ov iv v)
      release [v, ov, iv] []) := by intro _; rfl)
    (hs : swapsWithSole [.Subscript (.Name x p1) ik p2] ev pos.line X.env = pure false := by rfl) (hw : swappedStores [.Subscript (.Name x p1) ik p2] ev X.env = pure none := by rfl)
    (h1 : (assignEach [.Subscript (.Name x p1) ik p2] X.env).map (·.2) = [assign (.Subscript (.Name x p1) ik p2) X.env] := by rfl) :
    DS X W H0 G0 (.Assign [.Subscript (.Name x p1) ik p2] ev pos) (sPutL al i fk fv) := by
  refine (ps_asg he (pg_sub (pe_var hN hv hd hcd) hk set_list ha) hs hw h1).lk fun Z σ H ⟨e, G, S, p⟩ => (S.exp al).imp fun H ⟨G1, GA, S0, E, nxt⟩ => ?_
  have S1 := nxt H GA (Ext.refl E.sub)
  obtain ⟨xs, hx, p⟩ := ownL_inv p
  obtain ⟨a, vs, q1, q2, q3⟩ := S1.ownL hx
  unfold sE at p
  dsimp only at p
  refine ⟨e, GA, E, ?_⟩
  cases hr : fv e with
  | exc c fs' =>
    rw [hr] at p
    exact fun cls o H' s ix => p cls o σ H GA H' S1 s ix
  | bad => rw [hr] at p; exact p.elim
  | ok dv =>
    rw [hr] at p
    intro H1 G1 x1 v rv
    refine ⟨.ref a, q1, e, G1, E.ext x1, ?_⟩
    cases hr2 : fk e with
    | exc c fs' =>
      simp only [Res.bind_ok, hr2] at p
      exact fun cls o H' s ix => p cls o σ H1 G1 H' (nxt H1 G1 x1) s ix
    | bad => simp only [Res.bind_ok, hr2] at p; exact p.elim
    | ok dk =>
      simp only [Res.bind_ok, hr2] at p
      intro H2 G2 x2 k rk
      have S2 := nxt H2 G2 (x1.trans x2)
      cases dk with
      | int n =>
        simp only [] at p
        cases hj : ixN xs.length n with
        | none => simp only [hj] at p; exact p.elim
        | some j =>
          simp only [hj] at p
          have xx := x1.trans x2
          refine ⟨a, vs, n, j, rfl, rk, xx.hh _ _ q2, by rw [q3.length]; exact hj, ?_⟩
          exact p σ _ G2 (S2.change hx q1 ⟨_, upd_same, (q3.mono xx.gg).set (rv.mono x2.gg) j⟩)
      | _ => exact (show False from p).elim

/-! ### what a loop walks -/
/-- J yields ds; what is walked is read in B, its items in G -/
structure WalkOf (K : PySem.W.Frag) (J : It) (ds : List D) (B G : Hp) : Prop where
  go : ∀ H i, Sub B H → i < ds.length → J.go i H
  stop : ∀ H, Sub B H → J.stop ds.length H
  yld : ∀ H G2 i x H', Sub B H → Sub G G2 → Sub G2 H → i < ds.length → J.yld i H x H' → ∃ d G', ds[i]? = some d ∧ Ext H G2 H' G' ∧ Rep K G' d x
def tI (K : PySem.W.Frag) (mg : Str → Option Value) (W : WX) (A : Nat → Prop) (f : Env → Res (List D)) : TI := fun σ H R => ∃ e G, EnvG K A σ e H G ∧ PostG K mg (fun c o H' => W c o σ H') H G (f e) fun ds H' G' => ∀ J, WalkOf K J ds G' G' → R J H'
def tIR (K : PySem.W.Frag) (mg : Str → Option Value) (W : WX) (A : Nat → Prop) (f : Env → Res (List D)) : TI := fun σ H R => ∃ e G, EnvG K A σ e H G ∧ PostG K mg (fun c o H' => W c o σ H') H G (f e) fun ds H' G' => ∀ J, WalkOf K J ds H' G' → R J H'
abbrev DI (X : Cx) (W : WX) (A : Nat → Prop) (tg ex : Expr) (f : Env → Res (List D)) : Prop := PI X tg ex (tI X.K X.mg W A f)
abbrev DIR (X : Cx) (W : WX) (A : Nat → Prop) (tg ex : Expr) (f : Env → Res (List D)) : Prop := PI X tg ex (tIR X.K X.mg W A f)
theorem walk_list {K : PySem.W.Frag} {B G : Hp} {a : Addr} {ds : List D} {vs : List V} (s : SqL K B a vs) (r : RepL K G ds vs) : WalkOf K (Itl K a) ds B G where
  go := fun H i h hi => by
    have hl : i < vs.length := by rw [r.length]; exact hi
    exact ⟨vs, vs[i], h.sql s, by simp [hl]⟩
  stop := fun H h => ⟨vs, h.sql s, by rw [r.length]; exact Nat.le_refl _⟩
  yld := fun H G2 i x H' h g g2 hi y => by
    obtain ⟨e, y⟩ := y
    subst e
    obtain ⟨d, h1, h2⟩ := r.get' (y vs (h.sql s))
    exact ⟨d, G2, h1, Ext.refl g2, h2.mono g⟩
theorem walk_tup {K : PySem.W.Frag} {B G : Hp} {a : Addr} {ds : List D} {vs : List V} (s : SqT K B a vs) (r : RepL K G ds vs) : WalkOf K (Itt K a) ds B G where
  go := fun H i h hi => by
    have hl : i < vs.length := by rw [r.length]; exact hi
    exact ⟨vs, vs[i], h.sqt s, by simp [hl]⟩
  stop := fun H h => ⟨vs, h.sqt s, by rw [r.length]; exact Nat.le_refl _⟩
  yld := fun H G2 i x H' h g g2 hi y => by
    obtain ⟨e, y⟩ := y
    subst e
    obtain ⟨d, h1, h2⟩ := r.get' (y vs (h.sqt s))
    exact ⟨d, G2, h1, Ext.refl g2, h2.mono g⟩
theorem walk_range {K : PySem.W.Frag} {B G : Hp} (lo : Int) (n : Nat) : WalkOf K (Itr lo n) ((List.range n).map fun i => D.int (lo + (i : Nat))) B G where
  go := fun H i h hi => by
    show i < n
    simpa using hi
  stop := fun H h => by
    show n ≤ _
    simp
  yld := fun H G2 i x H' h g g2 hi y => by
    obtain ⟨e, y⟩ := y
    subst e
    have hi' : i < n := by simpa using hi
    exact ⟨.int (lo + i), G2, by simp [hi'], Ext.refl g2, y⟩
/-- over a list or tuple -/
def iSeq (f : Env → Res D) : Env → Res (List D) := fun e => (f e).bind fun d => match d with
  | .lst xs => .ok xs
  | .tup xs => .ok xs
  | .con xs => .ok xs
  | _ => .bad
/-- what is walked: a list or a tuple -/
def iSq (K : PySem.W.Frag) (te : TE) : TI := fun σ H R => te σ H fun x H1 => ∃ a, x = .ref a ∧ (((∃ xs, SqL K H1 a xs) ∧ R (Itl K a) H1) ∨ ((∃ xs, SqT K H1 a xs) ∧ R (Itt K a) H1))
theorem pi_sq {tg l : Expr} {tl : TE} (hl : PE X l tl) : PI X tg l (iSq X.K tl) := by
  refine ⟨fun pins s σ H R I h => ?_⟩
  refine thn (hl.run pins s σ H _ I h) fun v s1 ⟨x, H1, I1, r1, q1⟩ => ?_
  obtain ⟨a, e, q⟩ := q1
  subst e
  cases r1
  rcases q with ⟨⟨xs, hq⟩, q⟩ | ⟨⟨xs, hq⟩, q⟩
  · obtain ⟨its, rv, p, hz⟩ := I1.list hq
    refine wpAny_pyIter_list p.isList ?_
    refine ⟨s1.heap.objs.size, [s1.heap.objs.size], _, _, H1, rfl, I1.kept (t' := s1.toks) fun b o e => Heap.get?_push_of_some _ e, turn_list a _, ⟨_, Heap.get?_push_size _ rfl, rfl, rfl⟩, fun b hb => ?_, q⟩
    have e : b = s1.heap.objs.size := by simpa using hb
    subst e
    exact I1.fpOk (Nat.le_refl _) (I1.hok.fresh (Nat.le_refl _))
  · obtain ⟨its, rv, p, hz⟩ := I1.tuple hq
    refine wpAny_pyIter_tuple (show s1.heap.IsTuple a its.toArray from p) ?_
    refine ⟨s1.heap.objs.size, [s1.heap.objs.size], _, _, H1, rfl, I1.kept (t' := s1.toks) fun b o e => Heap.get?_push_of_some _ e, turn_tuple a _, ⟨_, Heap.get?_push_size _ rfl, rfl, rfl⟩, fun b hb => ?_, q⟩
    have e : b = s1.heap.objs.size := by simpa using hb
    subst e
    exact I1.fpOk (Nat.le_refl _) (I1.hok.fresh (Nat.le_refl _))
variable {A : Nat → Prop}
theorem di_seq {tg : Expr} {f : Env → Res D} (h : DE X W A ex f) : DI X W A tg ex (iSeq f) :=
  (pi_sq h).imp fun σ H Q ⟨e, G, E, p⟩ => ⟨e, G, E, p.split.imp fun d H1 G1 x1 p1 v rv => by
    cases d with
    | lst xs =>
      obtain ⟨a, vs, rfl, s, r⟩ := rv
      exact ⟨a, rfl, .inl ⟨⟨vs, x1.gh.sql s⟩, PostG.here (a := xs) p1 x1.gh _ (walk_list s r)⟩⟩
    | tup xs =>
      obtain ⟨a, vs, rfl, s, r⟩ := rv
      exact ⟨a, rfl, .inr ⟨⟨vs, x1.gh.pt s⟩, PostG.here (a := xs) p1 x1.gh _ (walk_tup (SqT.of s) r)⟩⟩
    | con xs =>
      obtain ⟨a, vs, rfl, s, r⟩ := rv
      exact ⟨a, rfl, .inr ⟨⟨vs, x1.gh.sqt s.sqt⟩, PostG.here (a := xs) p1 x1.gh _ (walk_tup s.sqt r)⟩⟩
    | _ => exact (show False from p1).elim⟩
theorem WalkOf.low {K : PySem.W.Frag} {J : It} {ds : List D} {B B' G : Hp} (h : WalkOf K J ds B G) (s : Sub B B') : WalkOf K J ds B' G :=
  ⟨fun H i z => h.go H i (s.trans z), fun H z => h.stop H (s.trans z), fun H G2 i x H' z => h.yld H G2 i x H' (s.trans z)⟩
theorem dir_of {tg : Expr} {f : Env → Res (List D)} (h : DI X W A tg ex f) : DIR X W A tg ex f :=
  h.imp fun σ H Q ⟨e, G, E, p⟩ => ⟨e, G, E, p.imp fun ds H1 G1 x1 q J w => q J (w.low x1.gh)⟩
/-! ranges -/
def rangeD (lo hi : Int) : List D := (List.range (hi - lo).toNat).map fun i => D.int (lo + (i : Nat))
def iRange1 (f : Env → Res D) : Env → Res (List D) := fun e => (f e).bind fun d => match d with
  | .int n => if -(2 ^ 62) ≤ n ∧ n < 2 ^ 62 then .ok (rangeD 0 n) else .bad
  | _ => .bad
def iRange2 (f g : Env → Res D) : Env → Res (List D) := fun e => (f e).bind fun d => (g e).bind fun d2 => match d, d2 with
  | .int m, .int n => if -(2 ^ 62) ≤ m ∧ m < 2 ^ 62 ∧ -(2 ^ 62) ≤ n ∧ n < 2 ^ 62 then .ok (rangeD m n) else .bad
  | _, _ => .bad
theorem di_range1 {tg a : Expr} {p : Pos} {f : Env → Res D} (hg : Gl X "range") (hm : X.mg "range" = none) (ha : DE X W A a f) (hs : starEach [a] X.env = [(false, eval a X.env)] := by rfl) : DI X W A tg (.Call (.Name "range" p) [a] [] pos) (iRange1 f) :=
  (pi_range1 hg hm (pa_cons ha pa_nil hs) hs).imp fun σ H Q ⟨e, G, E, p⟩ => ⟨e, G, E, p.split.imp fun d H1 G1 x1 p1 v rv => by
    cases d with
    | int n =>
      have ev : v = .int n := rv
      subst ev
      dsimp only at p1
      by_cases hc : -(2 ^ 62) ≤ n ∧ n < 2 ^ 62
      · rw [if_pos hc] at p1
        refine ⟨n, rfl, hc.1, hc.2, p1.here x1.gh _ ?_⟩
        have : rangeD 0 n = (List.range n.toNat).map fun i => D.int (0 + (i : Nat)) := by unfold rangeD; rw [Int.sub_zero]
        rw [this]
        exact walk_range 0 n.toNat
      · rw [if_neg hc] at p1; exact p1.elim
    | _ => exact (show False from p1).elim⟩
/-! ### for -/
theorem StOk.step {K : PySem.W.Frag} {σ : L2.St} {e : Env} {H G H' G' : Hp} (S2 : StOk K H0 G0 σ e H G) (x3 : Ext H G H' G') : StOk K H0 G0 σ e H' G' := by
  refine ⟨S2.ext.trans x3, S2.len, fun j d' h => ?_, fun j d' h => ?_, S2.ne, S2.pn⟩
  · obtain ⟨v, w1, w2⟩ := S2.sh j d' h
    exact ⟨v, w1, w2.mono x3.gg⟩
  · obtain ⟨a, w1, w2, w3, w4⟩ := S2.ow j d' h
    refine ⟨a, w1, w2, ?_, w4.mono x3.hh x3.gg⟩
    cases hga : G' a with
    | none => rfl
    | some u =>
      rcases x3.new a (by rw [hga]; simp) with z | z
      · exact absurd w3 z
      · exact absurd z w4.nfr
theorem Ext.down {H G1 H1 G G' H' : Hp} (x : Ext H G H' G') (y : Ext H G1 H1 G) : Ext H G1 H' G' :=
  ⟨x.hh, y.gg.trans x.gg, x.gh, fun b z => by
    rcases x.new b z with z | z
    · exact y.new b z
    · exact .inr z⟩
theorem StOk.down {K : PySem.W.Frag} {σ : L2.St} {e : Env} {H G H1 G1 : Hp} (S : StOk K H0 G1 σ e H G) (y : Ext H0.hp G0 H1 G1) : StOk K H0 G0 σ e H G := ⟨S.ext.down y, S.len, S.sh, S.ow, S.ne, S.pn⟩
theorem StOk.up {K : PySem.W.Frag} {σ : L2.St} {e : Env} {H G G1 : Hp} (S : StOk K H0 G0 σ e H G) (s : Sub G1 G) (h : ∀ b, G b ≠ none → G1 b ≠ none ∨ Fr1 H0.hp b := by exact fun b z => .inl z) : StOk K H0 G1 σ e H G := ⟨⟨S.ext.hh, s, S.ext.gh, h⟩, S.len, S.sh, S.ow, S.ne, S.pn⟩
/-- the turns -/
def turns (p : Pat) (body : Env → Out) : List D → Env → Out
  | [], e => .nx e
  | d :: ds, e => match p.bind d e with
    | .ok e1 => match body e1 with
      | .nx e2 => turns p body ds e2
      | .ct e2 => turns p body ds e2
      | .bk e2 => .nx e2
      | .rt d => .rt d
      | .ro d => .ro d
      | .rm d e2 => .rm d e2
      | .ex c fs e2 => .ex c fs e2
      | .bad => .bad
    | _ => .bad
def sFor (al : List Nat) (p : Pat) (fi : Env → Res (List D)) (body : Env → Out) : Env → Out := sE al fi fun ds e => turns p body ds e
theorem ds_for {tg iter : Expr} {body : List Stmt} {p : Pat} {fi : Env → Res (List D)} {fb : Env → Out} (hp : PassesOwn (model X.prog X.w) X.A X.env X.xe) (hc : X.calm = true) (hi : DI X W (fun i => i ∈ al) tg iter fi) (hg : DG X tg p) (hb : ∀ G1, DSs X W H0 G1 body fb)
    (hs : ∀ x, foldedSetIterable iter X.env x = pure x := by intro _; rfl) : DS X W H0 G0 (.For tg iter body [] pos) (sFor al p fi fb) := by
  obtain ⟨g, g1, g2⟩ := hg
  -- the body's reading, whatever stays through it
  have hb' : PSs X body fun Z σ H => ∃ G1, tS X.K X.mg W H0 G1 fb Z σ H := ⟨fun pins s σ H D I ⟨G1, q⟩ => (hb G1).run pins s σ H D I q⟩
  refine (ps_for hp hc hi g1 hb' hs).lk fun Z σ H hq => (sE_step hq).imp fun H ⟨e, G, E, p1⟩ => ?_
  refine ⟨e, G, E, p1.imp fun ds H1 G1 x1 ⟨S1, q1⟩ J w => ?_⟩
  -- what holds between the turns
  refine ⟨fun i m σ2 H2 => m = ds.length - i ∧ i ≤ ds.length ∧ ∃ e2 G2, StOk X.K H0 G0 σ2 e2 H2 G2 ∧ Sub G1 G2 ∧ SPost X.K X.mg W H0 G0 (turns p fb (ds.drop i) e2) Z,
    ⟨ds.length, rfl, Nat.zero_le _, fz al e, G1, S1, Sub.refl _, q1⟩, ?_⟩
  rintro i m σ2 H2 ⟨rfl, hi, e2, G2, S2, g12, q2⟩
  by_cases hlt : i < ds.length
  · refine .inr ⟨w.go H2 i (g12.trans S2.ext.gh) hlt, fun σ3 H3 => ∃ e3 G3, StOk X.K H0 G0 σ3 e3 H3 G3 ∧ Sub G1 G3 ∧ SPost X.K X.mg W H0 G0 (turns p fb (ds.drop (i + 1)) e3) Z, ?_, ?_⟩
    · rintro σ3 H3 ⟨e3, G3, S3, g13, q3⟩
      exact ⟨ds.length - (i + 1), by omega, rfl, hlt, e3, G3, S3, g13, q3⟩
    · intro x H3 y
      obtain ⟨d, G3, hd, x3, rd⟩ := w.yld H2 G2 i x H3 (g12.trans S2.ext.gh) g12 S2.ext.gh hlt y
      have S3 : StOk X.K H0 G0 σ2 e2 H3 G3 := S2.step x3
      have e0 : ds.drop i = d :: ds.drop (i + 1) := by
        rw [List.drop_eq_getElem_cons hlt]
        have : ds[i] = d := by
          have := List.getElem?_eq_getElem hlt
          rw [hd] at this
          exact (Option.some.inj this).symm
        rw [this]
      rw [e0] at q2
      dsimp only [turns] at q2
      cases hb : p.bind d e2 with
      | exc c fs => rw [hb] at q2; exact q2.elim
      | bad => rw [hb] at q2; exact q2.elim
      | ok e3 =>
        rw [hb] at q2
        dsimp only at q2
        refine g2 _ st_setable x σ2 H3 G3 d e2 e3 _ S3 S3.ext.gh rd hb fun σ4 S4 => ⟨G3, e3, G3, S4.up (Sub.refl _), ?_⟩
        have g14 : Sub G1 G3 := g12.trans x3.gg
        cases hr : fb e3 with
        | nx e4 =>
          rw [hr] at q2
          exact fun σ5 H5 G5 S5 => ⟨e4, G5, S5.down S4.ext, g14.trans S5.ext.gg, q2⟩
        | ct e4 =>
          rw [hr] at q2
          exact fun σ5 H5 G5 S5 => ⟨e4, G5, S5.down S4.ext, g14.trans S5.ext.gg, q2⟩
        | bk e4 => rw [hr] at q2; exact fun σ5 H5 G5 S5 => q2 σ5 H5 G5 (S5.down S4.ext)
        | rt d => rw [hr] at q2; exact fun v H5 G5 x5 => q2 v H5 G5 (x5.down S4.ext)
        | ro d => rw [hr] at q2; exact fun a H5 G5 x5 => q2 a H5 G5 (x5.down S4.ext)
        | rm d e4 => rw [hr] at q2; exact fun v σ5 H5 G5 S5 => q2 v σ5 H5 G5 (S5.down S4.ext)
        | ex c fs e4 => rw [hr] at q2; exact fun cls o σ5 H5 G5 H6 S5 => q2 cls o σ5 H5 G5 H6 (S5.down S4.ext)
        | bad => rw [hr] at q2; exact q2.elim
  · have ei : i = ds.length := by omega
    subst ei
    refine .inl ⟨w.stop H2 (g12.trans S2.ext.gh), ?_⟩
    rw [List.drop_length] at q2
    exact q2 σ2 H2 G2 S2
end
end DL

namespace DL
open PySem PySem.Spec PyProof.Rows L2
open PySem.Builtin.Int (intBits)

/-! ### while -/
section
variable {X : Cx} {W : WX} {H0 : Bas} {G0 : Hp} {al : List Nat} {ex : Expr} {es : List Expr} {pos apos cpos p1 p2 : Pos}
/-! ### calls of defs -/
/-- what a def of so many parameters promises: what F says -/
def spD (K : PySem.W.Frag) (mg : Str → Option Value) (n : Nat) (F : List D → Res D) : Sp := fun vs H Q E => vs.length = n ∧ ∃ ds G, Sub G H ∧ RepL K G ds vs ∧ PostG K mg E H G (F ds) fun d H' G' => ∀ v, Rep K G' d v → Q v H'
structure CallOk (P : Program) (w : World) (K : PySem.W.Frag) (mg : Str → Option Value) (base : Heap) (k : Nat) (x : Str) (ps : List Str) (F : List D → Res D) : Prop where
  ok : ∃ f fd, mg x = some (.ref f) ∧ PySem.W.keepIn K (.ref f) = true ∧ Binds K fd ps [] ∧ FnOk P w K mg base (L2.CX P w) k f fd ps (spD K mg ps.length F)
def eCall (F : List D → Res D) (fs : Env → Res (List D)) : Env → Res D := fun e => (fs e).bind F
theorem de_call {A : Nat → Prop} {x : Str} {p : Pos} {k : Nat} {ps : List Str} {F : List D → Res D} {fs : Env → Res (List D)} (c : CallOk X.prog X.w X.K X.mg X.base k x ps F) (hr : Room k X.A) (hg : Gl X x) (tk : Takes X W) (ha : DA X W A (ex :: es) fs) (hl : LenIs fs ps.length) (hl2 : ∀ e ds, fs e = .ok ds → ps.length ≤ ds.length)
    (hdb : (x == ("__debug__" : Str)) = false := by decide) (he : starEach (ex :: es) X.env = (false, eval ex X.env) :: starEach es X.env := by rfl) (hpl : (backTo pos (starEach es X.env)).any (·.1) = false := by rfl) :
    DE X W A (.Call (.Name x p) (ex :: es) [] pos) (eCall F fs) := by
  obtain ⟨f, fd, hm, hk, hb, hF⟩ := c.ok
  refine (pe_callS hF hr hg hm hk hb (fun σ => passAt tk σ) ha hdb he hpl).imp fun σ H Q ⟨e, G, E, p⟩ => ⟨e, G, E, p.split.ifok fun ds H1 G1 hk x1 p1 vs rs => ?_⟩
  exact ⟨by rw [rs.length]; exact Nat.le_antisymm (hl e ds hk) (hl2 e ds hk), ds, G1, x1.gh, rs, p1⟩
/-- .. exactly so long -/
def LenEq (fs : Env → Res (List D)) (n : Nat) : Prop := ∀ e ds, fs e = .ok ds → ds.length = n
theorem leq_nil : LenEq aNil 0 := fun e ds h => by cases h; rfl
theorem leq_cons {f : Env → Res D} {fs : Env → Res (List D)} {n : Nat} (h : LenEq fs n) : LenEq (aCons f fs) (n + 1) := fun e ds q => by
  unfold aCons at q
  cases hf : f e with
  | ok d =>
    rw [hf] at q
    cases hs : fs e with
    | ok es => rw [hs] at q; cases q; exact congrArg (· + 1) (h e es hs)
    | exc c x => rw [hs] at q; cases q
    | bad => rw [hs] at q; cases q
  | exc c x => rw [hf] at q; cases q
  | bad => rw [hf] at q; cases q
theorem de_callE {A : Nat → Prop} {x : Str} {p : Pos} {k : Nat} {ps : List Str} {F : List D → Res D} {fs : Env → Res (List D)} (c : CallOk X.prog X.w X.K X.mg X.base k x ps F) (hr : Room k X.A) (hg : Gl X x) (tk : Takes X W) (ha : DA X W A (ex :: es) fs) (hl : LenEq fs ps.length)
    (hdb : (x == ("__debug__" : Str)) = false := by decide) (he : starEach (ex :: es) X.env = (false, eval ex X.env) :: starEach es X.env := by rfl) (hpl : (backTo pos (starEach es X.env)).any (·.1) = false := by rfl) :
    DE X W A (.Call (.Name x p) (ex :: es) [] pos) (eCall F fs) := de_call c hr hg tk ha (fun e ds h => Nat.le_of_eq (hl e ds h)) (fun e ds h => Nat.le_of_eq (hl e ds h).symm) hdb he hpl

/-! ### a def keeps its promise -/
def env0 (n m : Nat) (ds : List D) : Env := ds.map (fun d => some (d, false)) ++ List.replicate (m - n) none
def runDef (n m : Nat) (fb : Env → Out) : List D → Res D := fun ds => match fb (env0 n m ds) with
  | .rt d => .ok d
  | .ro d => .ok d
  | .rm d _ => .ok d
  | .nx _ => .ok .non
  | .ex c fs _ => .exc c fs
  | _ => .bad
abbrev wE (E : XK) : WX := fun cls o _ H => E cls o H
theorem fnD {P : Program} {w : World} {K : PySem.W.Frag} {mg : Str → Option Value} {base : Heap} {x qual : Str} {st : Stmt} {f : Addr} {fd : FuncData} {N ps : List Str} {k : Nat} {fb : Env → Out} (F : Fun K x qual st f fd) (S : FnScope N ps (defScope st))
    (hbody : ∀ (cdv : Value) (A : Around) (outer : List PySem.Env) (s : Shared) (H G : Hp) (E : XK), Room k (A.deeper (envOfC qual (defScope st) s.heap.objs.size f cdv)) →
      Takes (cxOf (L2.CX P w) P w K mg base N qual (defScope st) f cdv A outer s H E) (wE E) → PassesOwn (model P w) (A.deeper (envOfC qual (defScope st) s.heap.objs.size f cdv)) (envOfC qual (defScope st) s.heap.objs.size f cdv) (cxOf (L2.CX P w) P w K mg base N qual (defScope st) f cdv A outer s H E).xe →
      DSs (cxOf (L2.CX P w) P w K mg base N qual (defScope st) f cdv A outer s H E) (wE E) (Bas.of H) G (defBody st) fb) :
    FnOk P w K mg base (L2.CX P w) (k + 1) f fd ps (spD K mg ps.length (runDef ps.length N.length fb)) := by
  refine F.okX S (fun vs H Q E h => h.1) fun cdv A outer s H vs Q E hr h => ?_
  obtain ⟨hl, ds, G, sg, r, p⟩ := h
  refine ⟨_, (hbody cdv A outer s H G E hr (takes_of rfl rfl rfl rfl) (passes_of rfl)).lkR (fun D σ H q => q), ?_⟩
  show tS _ _ _ _ _ _ _ _ _
  refine ⟨env0 ps.length N.length ds, G, ?_, ?_⟩
  · have hps : ps.length ≤ N.length := by have := congrArg List.length S.pre; rw [List.length_take] at this; omega
    have hdl := r.length
    have get : ∀ (i : Nat) (d : D) (o : Bool), (env0 ps.length N.length ds)[i]? = some (some (d, o)) → o = false ∧ ds[i]? = some d := fun i d o h => by
      unfold env0 at h
      by_cases hi : i < ds.length
      · rw [List.getElem?_append_left (by simpa using hi), List.getElem?_map] at h
        cases q : ds[i]? with
        | none => rw [q] at h; cases h
        | some d' => rw [q] at h; cases h; exact ⟨rfl, rfl⟩
      · rw [List.getElem?_append_right (by simpa using hi), List.getElem?_replicate] at h
        split at h <;> cases h
    refine ⟨⟨Sub.refl _, Sub.refl _, sg, fun b z => .inl z⟩, ?_, fun i d h => ?_, fun i d h => ?_, fun i j d d' a h => ?_, fun i a d h => by cases h⟩
    · unfold L2.start env0
      simp only [List.length_append, List.length_map, List.length_replicate]
      omega
    · obtain ⟨_, h2⟩ := get i d false h
      obtain ⟨v, h3, h4⟩ := r.get h2
      refine ⟨v, ?_, h4⟩
      have hi : i < vs.length := (List.getElem?_eq_some_iff.mp h3).1
      unfold L2.start
      rw [List.getElem?_append_left (by simpa using hi), List.getElem?_map, h3]
      rfl
    · exact absurd (get i d true h).1 (by simp)
    · exact absurd (get i d true h).1 (by simp)
  · unfold runDef at p
    cases hr : fb (env0 ps.length N.length ds) with
    | rt d =>
      rw [hr] at p
      exact fun v H' G' x r => .here (p H' G' x v r)
    | ro d =>
      rw [hr] at p
      intro a H' G' x ha ga rc
      exact (own_lock x ha ga rc).imp fun H2 ⟨G2, y, r⟩ => p H2 G2 y _ r
    | nx e' =>
      rw [hr] at p
      exact fun σ' H' G' S' => p H' G' S'.ext .non rfl
    | ex c fs e' =>
      rw [hr] at p
      exact fun cls o σ' H' G' H2 S' s2 ix => p cls o H2 (S'.ext.hh.trans s2) ix
    | rm d e' =>
      rw [hr] at p
      exact fun v σ' H' G' S' r => .here (p H' G' S'.ext v r)
    | bk e' => rw [hr] at p; exact p.elim
    | ct e' => rw [hr] at p; exact p.elim
    | bad => rw [hr] at p; exact p.elim
end
end DL

namespace DL
open PySem PySem.Spec PyProof.Rows L2
open PySem.Builtin.Int (intBits)

/-! ### comprehensions -/
def wipeE (e : Env) : List Nat → Env
  | [] => e
  | v :: vs => (wipeE e vs).set v none
theorem wipeE_length (e : Env) : ∀ vs : List Nat, (wipeE e vs).length = e.length
  | [] => rfl
  | v :: vs => by unfold wipeE; rw [List.length_set, wipeE_length e vs]
theorem wipe_other {σ : L2.St} {i : Nat} : ∀ {vs : List Nat}, i ∉ vs → (wipe σ vs)[i]? = σ[i]?
  | [], _ => rfl
  | v :: vs, h => by
    unfold wipe
    rw [List.getElem?_set_ne (fun z => h (by simp [z])), wipe_other (fun z => h (by simp [z]))]
theorem wipeE_get {e : Env} {i : Nat} {x : D × Bool} : ∀ {vs : List Nat}, (wipeE e vs)[i]? = some (some x) → e[i]? = some (some x) ∧ i ∉ vs
  | [], h => ⟨h, by simp⟩
  | v :: vs, h => by
    unfold wipeE at h
    rcases set_get h with ⟨_, z⟩ | ⟨hi, z⟩
    · cases z
    · obtain ⟨a, b⟩ := wipeE_get z
      exact ⟨a, by simp [hi, b]⟩
theorem wipe_set {σ : L2.St} {i : Nat} {x : Option V} : ∀ {vs : List Nat}, i ∈ vs → wipe (σ.set i x) vs = wipe σ vs
  | [], h => by simp at h
  | v :: vs, h => by
    unfold wipe
    by_cases hv : i ∈ vs
    · rw [wipe_set hv]
    · have e : i = v := by simpa [hv] using h
      subst e
      have key : ∀ (ws : List Nat) (τ : L2.St), i ∉ ws → wipe (τ.set i x) ws = (wipe τ ws).set i x := by
        intro ws
        induction ws with
        | nil => intro τ _; rfl
        | cons w ws ih =>
          intro τ hw
          unfold wipe
          rw [ih τ (fun z => hw (by simp [z])), List.set_comm _ _ (fun z => hw (by simp [z]))]
      rw [key vs σ hv, List.set_set]
theorem wipe_idem {σ : L2.St} : ∀ (vs : List Nat), wipe (wipe σ vs) vs = wipe σ vs := by
  have swap : ∀ (ws : List Nat) (τ : L2.St) (i : Nat), wipe (τ.set i none) ws = (wipe τ ws).set i none := by
    intro ws
    induction ws with
    | nil => intro τ i; rfl
    | cons w ws ih =>
      intro τ i
      unfold wipe
      rw [ih]
      by_cases h : i = w
      · subst h; rfl
      · rw [List.set_comm _ _ h]
  intro vs
  induction vs with
  | nil => rfl
  | cons v vs ih =>
    show (wipe ((wipe σ vs).set v none) vs).set v none = (wipe σ vs).set v none
    rw [swap, ih, List.set_set]
theorem EnvG.wipe {K : PySem.W.Frag} {A : Nat → Prop} {σ : L2.St} {e : Env} {H G : Hp} (h : EnvG K A σ e H G) (vs : List Nat) : EnvG K A (L2.wipe σ vs) (wipeE e vs) H G :=
  ⟨h.sub, by rw [wipe_length, wipeE_length]; exact h.len, fun i d o hi => by
    obtain ⟨a, b⟩ := wipeE_get hi
    rw [wipe_other b]
    exact h.val i d o a⟩
theorem EnvG.set {K : PySem.W.Frag} {A : Nat → Prop} {σ : L2.St} {e : Env} {H G : Hp} (h : EnvG K A σ e H G) (i : Nat) {d : D} {v : V} (r : Rep K G d v) : EnvG K A (σ.set i (some v)) (e.set i (some (d, false))) H G :=
  ⟨h.sub, by rw [List.length_set, List.length_set]; exact h.len, fun j d' o hj => by
    rcases set_get hj with ⟨rfl, z⟩ | ⟨hij, z⟩
    · cases z
      have hl : j < e.length := by
        by_cases hl : j < e.length
        · exact hl
        · rw [List.getElem?_eq_none (by simpa using hl)] at hj; cases hj
      exact ⟨v, List.getElem?_set_self (by rw [h.len]; exact hl), fun _ => r, r.c h.sub⟩
    · rw [List.getElem?_set_ne (Ne.symm hij)]
      exact h.val j d' o z⟩
/-- the items: what is walked, by the pattern, where the test holds -/
def compL (e : Env) (p : Pat) (ft : Env → Res Bool) (fe : Env → Res D) : List D → Res (List D)
  | [] => .ok []
  | d :: ds => match p.bind d e with
    | .ok e1 => match ft e1 with
      | .ok true => match fe e1 with
        | .ok y => (compL e p ft fe ds).bind fun ys => .ok (y :: ys)
        | _ => .bad
      | .ok false => compL e p ft fe ds
      | _ => .bad
    | _ => .bad
def bYes : Env → Res Bool := fun _ => .ok true
def eComp (own : List Nat) (p : Pat) (fi : Env → Res (List D)) (ft : Env → Res Bool) (fe : Env → Res D) : Env → Res D := fun e => (fi e).bind fun ds => if ds.length ≤ sizeLine then (match compL (wipeE e own) p ft fe ds with
  | .ok ys => .ok (.lst ys)
  | _ => .bad) else .bad
abbrev WF : WX := fun _ _ _ _ => False
abbrev DTs (X : Cx) (A : Nat → Prop) (ifs : List Expr) (f : Env → Res Bool) : Prop := PTs X ifs (tT X.K X.mg WF A f)
theorem dts_nil {X : Cx} {A : Nat → Prop} : DTs X A [] bYes := ⟨fun pins s σ H Q I ⟨e, G, E, p⟩ => pts_nil.run pins s σ H Q I (p.here E.sub)⟩
/-- the reading of a comprehension, from the data's -/
theorem comp_imp {K : PySem.W.Frag} {mg : Str → Option Value} {W : WX} {A : Nat → Prop} {own : List Nat} {p : Pat} {fi : Env → Res (List D)} {ft : Env → Res Bool} {fe : Env → Res D} {g : TG} (hsl : ∀ i ∈ p.slots, i ∈ own)
    (hg : ∀ (R : L2.St → Env → Hp → Hp → Prop), Setable K p.slots R → ∀ (v : V) (σ : L2.St) (H G : Hp) (d : D) (e e' : Env) (Q : L2.St → Hp → Prop), R σ e H G → Sub G H → Rep K G d v → p.bind d e = .ok e' → (∀ σ', R σ' e' H G → Q σ' H) → g v σ H Q)
    (σ : L2.St) (H : Hp) (Q : VK) (q : tF K mg W A (eComp own p fi ft fe) σ H Q) : tLc (tIR K mg W A fi) g (tT K mg WF A ft) (tD K mg WF A fe) own σ H Q := by
  obtain ⟨e, G, E, pp⟩ := q
  refine ⟨e, G, E, pp.split.imp fun ds H1 G1 x1 p1 J w D0 hD => ?_⟩
  have E1 := E.ext x1
  by_cases hz : ds.length ≤ sizeLine
  · rw [if_pos hz] at p1
    cases hc : compL (wipeE e own) p ft fe ds with
    | exc c fs => rw [hc] at p1; exact p1.elim
    | bad => rw [hc] at p1; exact p1.elim
    | ok total =>
      rw [hc] at p1
      have gD : G1 D0 = none := x1.gh.free hD
      refine ⟨fun i m H2 => m = ds.length - i ∧ i ≤ ds.length ∧ ∃ (G2 : Hp) (acc : List D) (accV : List V) (rest : List D), Ext H1 G1 H2 G2 ∧ G2 D0 = none ∧ H2 D0 = some (.lst accV) ∧ RepL K G2 acc accV ∧ acc.length ≤ i ∧ compL (wipeE e own) p ft fe (ds.drop i) = .ok rest ∧ acc ++ rest = total,
        ⟨ds.length, rfl, Nat.zero_le _, G1, [], [], total, ⟨Sub.upd hD, Sub.refl _, x1.gh.trans (Sub.upd hD), fun b z => .inl z⟩, gD, upd_same, rfl, Nat.zero_le _, hc, rfl⟩, ?_⟩
      rintro i m H2 ⟨rfl, hi, G2, acc, accV, rest, x2, g2, h2, r2, ha, hr, ht⟩
      by_cases hlt : i < ds.length
      · refine .inr ⟨w.go H2 i x2.hh hlt, fun H3 => ∃ (G3 : Hp) (acc : List D) (accV : List V) (rest : List D), Ext H1 G1 H3 G3 ∧ G3 D0 = none ∧ H3 D0 = some (.lst accV) ∧ RepL K G3 acc accV ∧ acc.length ≤ i + 1 ∧ compL (wipeE e own) p ft fe (ds.drop (i + 1)) = .ok rest ∧ acc ++ rest = total, fun H3 h => ⟨ds.length - (i + 1), by omega, rfl, hlt, h⟩, fun x H3 y => ?_⟩
        obtain ⟨d, G3, hd, x3, rd⟩ := w.yld H2 G2 i x H3 x2.hh x2.gg x2.gh hlt y
        have x13 := x2.trans x3
        have n3 : ∀ {H' G' : Hp}, Ext H2 G2 H' G' → G' D0 = none := fun {H' G'} x => by
          cases hga : G' D0 with
          | none => rfl
          | some u =>
            rcases x.new D0 (by rw [hga]; simp) with z | z
            · exact absurd g2 z
            · rcases z with z | ⟨_, z⟩ <;> (rw [h2] at z; cases z)
        have e0 : ds.drop i = d :: ds.drop (i + 1) := by
          rw [List.drop_eq_getElem_cons hlt]
          have : ds[i] = d := by
            have := List.getElem?_eq_getElem hlt
            rw [hd] at this
            exact (Option.some.inj this).symm
          rw [this]
        rw [e0] at hr
        dsimp only [compL] at hr
        cases hb : p.bind d (wipeE e own) with
        | exc c fs => rw [hb] at hr; cases hr
        | bad => rw [hb] at hr; cases hr
        | ok e1 =>
          rw [hb] at hr
          dsimp only at hr
          refine hg (fun σ' e' H' G' => EnvG K A σ' e' H' G' ∧ L2.wipe σ' own = L2.wipe σ own) (fun σ' e' H' G' j d' v hj ⟨R1, R2⟩ r => ⟨R1.set j r, by rw [wipe_set (hsl j hj)]; exact R2⟩) x (L2.wipe σ own) H3 G3 d (wipeE e own) e1 _ ⟨(E1.ext x13).wipe own, wipe_idem own⟩ x3.gh rd hb fun σ' ⟨R1, R2⟩ => ⟨R2, e1, G3, R1, ?_⟩
          cases hft : ft e1 with
          | exc c fs => rw [hft] at hr; cases hr
          | bad => rw [hft] at hr; cases hr
          | ok b =>
            rw [hft] at hr
            intro H4 G4 x4
            cases b with
            | false =>
              dsimp only at hr ⊢
              rw [if_neg Bool.false_ne_true]
              exact ⟨G4, acc, accV, rest, x13.trans x4, n3 (x3.trans x4), x4.hh _ _ (x3.hh _ _ h2), (r2.mono x3.gg).mono x4.gg, Nat.le_succ_of_le ha, hr, ht⟩
            | true =>
              dsimp only at hr ⊢
              rw [if_pos rfl]
              refine ⟨e1, G4, R1.ext x4, ?_⟩
              cases hfe : fe e1 with
              | exc c fs => rw [hfe] at hr; cases hr
              | bad => rw [hfe] at hr; cases hr
              | ok y =>
                rw [hfe] at hr
                dsimp only at hr
                intro H5 G5 x5 yv ry
                cases hcr : compL (wipeE e own) p ft fe (ds.drop (i + 1)) with
                | exc c fs => rw [hcr] at hr; cases hr
                | bad => rw [hcr] at hr; cases hr
                | ok rest' =>
                  rw [hcr] at hr
                  cases hr
                  have x25 := (x3.trans x4).trans x5
                  have x15 := x2.trans x25
                  have n5 := n3 x25
                  have h5 := x25.hh _ _ h2
                  refine ⟨accV, h5, ?_, G5, acc ++ [y], accV ++ [yv], rest', ⟨fun b o z => ?_, x15.gg, fun b o z => ?_, x15.new⟩, n5, upd_same, (r2.mono x25.gg).append (.cons ry rfl), ?_, rfl, ?_⟩
                  · rw [r2.length]; omega
                  · have nb : b ≠ D0 := fun q => by rw [q, hD] at z; cases z
                    rw [upd_ne nb]; exact x15.hh _ _ z
                  · have nb : b ≠ D0 := fun q => by rw [q, n5] at z; cases z
                    rw [upd_ne nb]; exact x15.gh _ _ z
                  · rw [List.length_append, List.length_singleton]; omega
                  · rw [← ht, List.append_assoc]; rfl
      · have ei : i = ds.length := by omega
        subst ei
        refine .inl ⟨w.stop H2 x2.hh, ?_⟩
        rw [List.drop_length] at hr
        cases hr
        rw [List.append_nil] at ht
        subst ht
        exact p1 H2 G2 x2 D0 (x1.hh.free hD) g2 ⟨accV, h2, r2⟩
  · rw [if_neg hz] at p1; exact p1.elim
section
variable {X : Cx} {W : WX} {H0 : Bas} {G0 : Hp} {A : Nat → Prop} {al : List Nat} {pos spos : Pos}
theorem df_comp {elt tg iter : Expr} {ifs : List Expr} {scope : Scope} {own : List (Str × Nat)} {p : Pat} {fi : Env → Res (List D)} {ft : Env → Res Bool} {fe : Env → Res D} (hc : X.calm = true) (hN : X.N.Nodup) (hi : DIR X W A tg iter fi) (ok : BlkOk X.N X.env.scope scope own)
    (hg : ∀ (s : Shared) (H : Hp) (C : Addr) (cl : List (Str × Addr)) (fp : List Addr), DG (X.blk s H scope (compEnvC scope cl C X.env) fp) tg p) (ht : ∀ (s : Shared) (H : Hp) (C : Addr) (cl : List (Str × Addr)) (fp : List Addr), DTs (X.blk s H scope (compEnvC scope cl C X.env) fp) A ifs ft)
    (he : ∀ (s : Shared) (H : Hp) (C : Addr) (cl : List (Str × Addr)) (fp : List Addr), DE (X.blk s H scope (compEnvC scope cl C X.env) fp) WF A elt fe) (hsl : ∀ i ∈ p.slots, i ∈ own.map (·.2)) (hs : ∀ x, foldedSetIterable iter X.env x = pure x := by intro _; rfl) :
    DF X W A (.ListComp elt [⟨tg, iter, ifs, 0⟩] scope pos) (eComp (own.map (·.2)) p fi ft fe) := by
  let g0 : TG := fun v σ H Q => ∃ (R : L2.St → Env → Hp → Hp → Prop) (G : Hp) (d : D) (e e' : Env), Setable X.K p.slots R ∧ R σ e H G ∧ Sub G H ∧ Rep X.K G d v ∧ p.bind d e = .ok e' ∧ ∀ σ', R σ' e' H G → Q σ' H
  have hg' : ∀ (s : Shared) (H : Hp) (C : Addr) (cl : List (Str × Addr)) (fp : List Addr), PG (X.blk s H scope (compEnvC scope cl C X.env) fp) tg g0 := fun s H C cl fp => by
    obtain ⟨g, g1, g2⟩ := hg s H C cl fp
    exact ⟨fun pins s σ H v u Q I r ⟨R, G, d, e, e', a1, a2, a3, a4, a5, a6⟩ => g1.run pins s σ H v u Q I r (g2 R a1 v σ H G d e e' Q a2 a3 a4 a5 a6)⟩
  exact (pe_lc hc hN hi ok hg' ht he hs).imp (comp_imp (mg := X.mg) hsl fun R hR v σ H G d e e' Q a1 a2 a3 a4 a5 => ⟨R, G, d, e, e', hR, a1, a2, a3, a4, a5⟩)
/-- y = [..] -/
theorem ds_comp {i : Nat} {y : Str} {py : Pos} {elt tg iter : Expr} {ifs : List Expr} {scope : Scope} {own : List (Str × Nat)} {p : Pat} {fi : Env → Res (List D)} {ft : Env → Res Bool} {fe : Env → Res D} (fresh : Bool) (hc : X.calm = true) (hN : X.N.Nodup) (hy : X.N[i]? = some y) (hyl : X.env.scope.names.lookup y = some .local)
    (hsw : swapsWith (.ListComp elt [⟨tg, iter, ifs, 0⟩] scope pos) (some (.Name y py)) spos.line X.env = pure true) (hi : DIR X W (fun i => i ∈ al) tg iter fi) (ok : BlkOk X.N X.env.scope scope own)
    (hg : ∀ (s : Shared) (H : Hp) (C : Addr) (cl : List (Str × Addr)) (fp : List Addr), DG (X.blk s H scope (compEnvC scope cl C X.env) fp) tg p) (ht : ∀ (s : Shared) (H : Hp) (C : Addr) (cl : List (Str × Addr)) (fp : List Addr), DTs (X.blk s H scope (compEnvC scope cl C X.env) fp) (fun i => i ∈ al) ifs ft)
    (he : ∀ (s : Shared) (H : Hp) (C : Addr) (cl : List (Str × Addr)) (fp : List Addr), DE (X.blk s H scope (compEnvC scope cl C X.env) fp) WF (fun i => i ∈ al) elt fe) (hsl : ∀ i ∈ p.slots, i ∈ own.map (·.2)) (hs : ∀ x, foldedSetIterable iter X.env x = pure x := by intro _; rfl) (hpin : H0.pin i = none := by rfl) :
    DS X W H0 G0 (.Assign [.Name y py] (.ListComp elt [⟨tg, iter, ifs, 0⟩] scope pos) spos) (if fresh = true then sSetF al i (eComp (own.map (·.2)) p fi ft fe) else sSet al i (eComp (own.map (·.2)) p fi ft fe)) := by
  let g0 : TG := fun v σ H Q => ∃ (R : L2.St → Env → Hp → Hp → Prop) (G : Hp) (d : D) (e e' : Env), Setable X.K p.slots R ∧ R σ e H G ∧ Sub G H ∧ Rep X.K G d v ∧ p.bind d e = .ok e' ∧ ∀ σ', R σ' e' H G → Q σ' H
  have hg' : ∀ (s : Shared) (H : Hp) (C : Addr) (cl : List (Str × Addr)) (fp : List Addr), PG (X.blk s H scope (compEnvC scope cl C X.env) fp) tg g0 := fun s H C cl fp => by
    obtain ⟨g, g1, g2⟩ := hg s H C cl fp
    exact ⟨fun pins s σ H v u Q I r ⟨R, G, d, e, e', a1, a2, a3, a4, a5, a6⟩ => g1.run pins s σ H v u Q I r (g2 R a1 v σ H G d e e' Q a2 a3 a4 a5 a6)⟩
  have h1 := ps_setLc (tt := tT X.K X.mg WF (fun i => i ∈ al) ft) (te := tD X.K X.mg WF (fun i => i ∈ al) fe) hc hN hy hyl hsw hi ok hg' ht he hs
  have h2 := fun σ H Q => comp_imp (K := X.K) (mg := X.mg) (W := W) (A := fun i => i ∈ al) (own := own.map (·.2)) (p := p) (fi := fi) (ft := ft) (fe := fe) (g := g0) hsl (fun R hR v σ H G d e e' Q a1 a2 a3 a4 a5 => ⟨R, G, d, e, e', hR, a1, a2, a3, a4, a5⟩) σ H Q
  have hlst : ∀ e d, eComp (own.map (·.2)) p fi ft fe e = .ok d → d.isDct = false := fun e d h => by
    unfold eComp at h
    cases hi : fi e with
    | ok ds =>
      rw [hi, Res.bind_ok] at h
      split at h
      · split at h
        · cases h; rfl
        · cases h
      · cases h
    | exc c fs => rw [hi] at h; cases h
    | bad => rw [hi] at h; cases h
  generalize eComp (own.map (·.2)) p fi ft fe = f at h2 hlst ⊢
  have hF : DS X W H0 G0 (.Assign [.Name y py] (.ListComp elt [⟨tg, iter, ifs, 0⟩] scope pos) spos) (sSetF al i f) := h1.lk fun Z σ H ⟨e, G, S, p⟩ => (S.exp al).imp fun H ⟨G1, GA, S1, E, nxt⟩ => h2 σ H _ (by
    refine ⟨e, GA, E, ?_⟩
    unfold sSetF sE at p
    cases hr : f e with
    | ok d =>
      rw [hr] at p
      intro H' G' x a ha ga rc
      have S' := nxt H' G' x
      refine p _ H' G' (S'.setF i (Hb := H) S1.ext.hh (fun j d' b h1 h2 => ?_) ha ga rc hpin)
      have w1 := fz_fzD_own h1
      obtain ⟨a', q1, _, _, q4⟩ := S1.ow j d' w1
      rw [h2] at q1; cases q1
      exact q4.is
    | exc c fs =>
      rw [hr] at p
      exact fun cls o H' s ix => p cls o σ H GA H' (nxt H GA (Ext.refl E.sub)) s ix
    | bad => rw [hr] at p; exact p.elim)
  cases fresh with
  | true => exact hF
  | false =>
    refine h1.lk fun Z σ H hq => (sE_step (f := f) (k := fun d e => .nx (e.set i (some (d, false)))) hq).imp fun H ⟨e, G, E, p⟩ => h2 σ H _ ?_
    refine ⟨e, G, E, ?_⟩
    have p2 := p.imp (R' := fun d H' G' => ∀ v, Rep X.K G' d v → gName i v σ H' Z.nx) fun d H' G' _ ⟨S, q⟩ v r => q _ H' G' (S.set i r)
    cases hr : f e with
    | exc c fs => rw [hr] at p2; exact p2
    | bad => rw [hr] at p2; exact p2
    | ok d =>
      rw [hr] at p2
      intro H' G' x a ha ga rc
      have sg : Sub G' (fun b => if b = a then H' b else G' b) := fun b o q => by
        show (if b = a then H' b else G' b) = some o
        by_cases hb : b = a
        · subst hb; rw [ga] at q; cases q
        · rw [if_neg hb]; exact q
      refine p2 H' (fun b => if b = a then H' b else G' b) ⟨x.hh, x.gg.trans sg, fun b o q => ?_, fun b q => ?_⟩ (.ref a) (rc.put (hlst _ _ hr) sg (if_pos rfl))
      · have q' : (if b = a then H' b else G' b) = some o := q
        by_cases hb : b = a
        · rw [if_pos hb] at q'; exact q'
        · rw [if_neg hb] at q'; exact x.gh _ _ q'
      · have q' : (if b = a then H' b else G' b) ≠ none := q
        by_cases hb : b = a
        · subst hb; exact .inr (.inl ha)
        · rw [if_neg hb] at q'; exact x.new b q'
end
end DL

namespace DL
open PySem PySem.Spec PyProof.Rows L2
open PySem.Builtin.Int (intBits)

/-! ### a name that never holds a list to be changed -/
def eVarS (i : Nat) : Env → Res D := fun e => match e[i]? with
  | some (some (d, false)) => .ok d
  | _ => .bad
section
variable {X : Cx} {W : WX} {A : Nat → Prop} {a b : Expr} {rest : List Expr} {pos p p1 p2 : Pos} {x T : Str} {H0 : Bas} {G0 : Hp}
theorem de_vs {i : Nat} {x : Str} {pos : Pos} (hN : X.N[i]? = some x) (hv : Vis X.env.scope x) (hd : (x == ("__debug__" : Str)) = false := by decide) (hcd : (x == ("__classdict__" : Str)) = false := by decide) : DE X W A (.Name x pos) (eVarS i) :=
  (pe_var hN hv hd hcd).imp fun σ H Q ⟨e, G, E, p⟩ => by
    unfold eVarS at p
    cases h : e[i]? with
    | none => rw [h] at p; exact p.elim
    | some s => cases s with
      | none => rw [h] at p; exact p.elim
      | some z =>
        obtain ⟨d, o⟩ := z
        rw [h] at p
        cases o with
        | true => exact p.elim
        | false =>
          obtain ⟨v, h1, h2, h3⟩ := E.val i d false h
          exact ⟨v, h1, p.here E.sub v (h2 (.inr rfl))⟩

/-! ### isinstance -/
/-- the name of the data's own type -/
def D.tyN : D → Option String
  | .non => some "NoneType"
  | .bl _ => some "bool"
  | .int _ => some "int"
  | .str _ => some "str"
  | .tup _ => some "tuple"
  | .con _ => some "tuple"
  | .lst _ => some "list"
  | _ => none
def isInt : D → Res D
  | .int _ => .ok (.bl true)
  | .bl _ => .ok (.bl true)
  | d => if d.tyN = none then .bad else .ok (.bl false)
def isBool : D → Res D
  | .bl _ => .ok (.bl true)
  | d => if d.tyN = none then .bad else .ok (.bl false)
def isTup : D → Res D
  | .tup _ => .ok (.bl true)
  | .con _ => .ok (.bl true)
  | d => if d.tyN = none then .bad else .ok (.bl false)
def isStr : D → Res D
  | .str _ => .ok (.bl true)
  | d => if d.tyN = none then .bad else .ok (.bl false)
def isList : D → Res D
  | .lst _ => .ok (.bl true)
  | d => if d.tyN = none then .bad else .ok (.bl false)
/-- g says which data is of the type T -/
def IsOf (T : String) (g : D → Res D) : Prop := ∀ d, (∀ t, d.tyN = some t → ∃ b, kitB t T = some b ∧ g d = .ok (.bl b)) ∧ (d.tyN = none → g d = .bad)
theorem is_int : IsOf "int" isInt := fun d => ⟨fun t h => by cases d <;> cases h <;> exact ⟨_, by decide +kernel, rfl⟩, fun h => by cases d <;> first | rfl | cases h⟩
theorem is_bool : IsOf "bool" isBool := fun d => ⟨fun t h => by cases d <;> cases h <;> exact ⟨_, by decide +kernel, rfl⟩, fun h => by cases d <;> first | rfl | cases h⟩
theorem tyX {K : PySem.W.Frag} {H G : Hp} {d : D} {v : V} {t : String} (g : Sub G H) (r : RepC K H G d v) (h : d.tyN = some t) : TyX K H v (.type t) := by
  cases d with
  | non => cases h; cases (show v = .non from r); exact .base .non
  | bl b => cases h; cases (show v = .bl b from r); exact .base (.bl b)
  | int i => cases h; cases (show v = .int i from r); exact .base (.int i)
  | str x => cases h; cases (show v = .str x from r); exact .base (.str x)
  | tup ds =>
    cases h
    obtain ⟨a, vs, e, s, _⟩ := (show Rep K G (.tup ds) v from r)
    subst e
    rcases g.pt (K := K) s with (q | ⟨o, q⟩) | ⟨o, its, n, q1, q2, _⟩
    · exact .base (.tup q)
    · exact .fTuple q
    · exact .kTuple q1 q2
  | con ds =>
    cases h
    obtain ⟨a, vs, e, s, _⟩ := (show Rep K G (.con ds) v from r)
    subst e
    rcases g.sqt (K := K) s.sqt with (q | ⟨o, q⟩) | ⟨o, its, n, q1, q2, _⟩
    · exact .base (.tup q)
    · exact .fTuple q
    · exact .kTuple q1 q2
  | lst ds =>
    cases h
    obtain ⟨a, vs, e, s, _⟩ := r
    subst e
    rcases s with (q | ⟨o, q⟩) | ⟨o, its, n, q1, q2, _⟩
    · exact .base (.lst q)
    · exact .base (.frz q)
    · exact .kList q1 q2
  | _ => cases h
theorem de_isi {x T : Str} {n : String} {g : D → Res D} {f : Env → Res D} (ho : IsOf n g) (hg : Gl X x) (hm : X.mg x = none) (hv : bootBuiltins x = some (.builtin "isinstance")) (ha : DR X W A a f) (hgT : Gl X T) (hmT : X.mg T = none) (hvT : bootBuiltins T = some (.type n))
    (hnx : x ≠ "__name__" := by decide) (hnT : T ≠ "__name__" := by decide) (hdT : (T == ("__debug__" : Str)) = false := by decide) (hdb : (x == ("__debug__" : Str)) = false := by decide)
    (he : starEach (a :: [.Name T p2]) X.env = (false, eval a X.env) :: starEach [.Name T p2] X.env := by rfl) (he2 : starEach (.Name T p2 :: []) X.env = (false, eval (.Name T p2) X.env) :: starEach [] X.env := by rfl) (hpl : (backTo pos (starEach [.Name T p2] X.env)).any (·.1) = false := by rfl) :
    DE X W A (.Call (.Name x p) [a, .Name T p2] [] pos) (e1 g f) := by
  refine (pe_callB call_isi hg hm hv (pa_cons ha (pa_cons (pe_bltn hgT hmT hvT (v := .ty n) rfl hnT hdT) pa_nil he2) he) hnx hdb he hpl).imp fun σ H Q ⟨e, G, E, p⟩ => ?_
  refine ⟨e, G, E, p.split.imp fun d H1 G1 x1 p1 v rv => ?_⟩
  cases ht : d.tyN with
  | none => rw [(ho d).2 ht] at p1; exact p1.elim
  | some t =>
    obtain ⟨b, k1, k2⟩ := (ho d).1 t ht
    rw [k2] at p1
    exact ⟨v, .ty n, .type t, .type n, b, rfl, .ty n, tyX x1.gh rv ht, kit_ty k1, p1.val x1.gh rfl⟩

/-! ### raise, try -/
structure ExcOk (K : PySem.W.Frag) (mg : Str → Option Value) (c : String) : Prop where
  ok : ∃ C B newId initId bmB, PySem.ExcBaseFacts B newId initId bmB ∧ PySem.W.excIn K C bmB newId = true ∧ mg (Str.ofString c) = some (.ref C) ∧ PySem.W.keepIn K (.ref C) = true ∧
    PySem.W.subIn K (.ref C) (.type "BaseException") = some true ∧ PySem.W.typeIn K (.ref C) = some (.type "type")
def sRaise (c : String) : Env → Out := fun e => .ex c [] e
/-- what "except X" does at each class -/
def Clause (K : PySem.W.Frag) (mg : Str → Option Value) (c : Value) (h : String → Option Bool) : Prop := ∀ k b cls, h k = some b → mg (Str.ofString k) = some cls → PySem.W.exmOne K cls c = some b
/-- nothing is raised out of here -/
def noEx (r : Out) : Out := match r with
  | .ex _ _ _ => .bad
  | r => r
def sTry (h : String → Option Bool) (fb fs : Env → Out) : Env → Out := fun e => match fb e with
  | .ex c fs' e' => match h c with
    | some true => noEx (fs e')
    | some false => .ex c fs' e'
    | none => .bad
  | r => r
end
end DL

namespace DL
open PySem PySem.Spec PyProof.Rows L2
open PySem.Builtin.Int (intBits)

theorem _root_.L2.Room.hu {k : Nat} {A : Around} (h : Room k A) : A.units + 64 < cLine := by have := h.un; omega
theorem CallOk.up {P : Program} {w : World} {K : PySem.W.Frag} {mg : Str → Option Value} {base : Heap} {j k : Nat} {x : Str} {ps : List Str} {F : List D → Res D} (h : CallOk P w K mg base j x ps F) (hjk : j ≤ k) : CallOk P w K mg base k x ps F := by
  obtain ⟨f, fd, a, b, c, d⟩ := h.ok
  exact ⟨f, fd, a, b, c, d.mono hjk⟩
theorem endW {l : PySem.W.OpenLaw} {k : Nat} {q : Program} {loose : List Str} {XP : (Str → Option Value) → Heap → Prop} {YP : World → Heap → Prop} {d : DefRec} {K : Params → PySem.W.Frag} {x : Str} {F : List D → Res D}
    (hn : l.most = some 63) (hdf : d.params.defaults = []) (hk : k < 60) (hY : ∀ (w : World) (h : Heap), YP w h → (K w.params).In h)
    (FF : ∀ (w : World) (mg : Str → Option Value) (fa : Addr) (h : Heap), (K w.params).In h → h.Ns mainGlobals mg → mg d.name = some (.ref fa) →
      ∃ fd : FuncData, (∀ (s : Shared) (u : Value), BindsTo s fd ⟨[u], []⟩ [(x, u)]) ∧ ∀ base : Heap, (K w.params).In base → base.Ns mainGlobals mg → FnOk l.prog w (K w.params) mg base (L2.CX l.prog w) k fa fd [x] (spD (K w.params) mg 1 F))
    (law : ∀ ns : List Int, ns.length ≤ 63 → (∀ z ∈ ns, intBits z ≤ 1048576) → F [.lst (ns.map D.int)] = .ok (.bl true)) :
    PySem.W.WalkO q loose XP YP l.row.toRowW d [] (fun f vs => PySem.call f vs) := by
  let sp : World → Sp := fun w => fun vs H Q E => vs.length = 1 ∧ ∃ (a : Addr) (ns : List Int), vs = [.ref a] ∧ ns.length ≤ 63 ∧ (∀ z ∈ ns, intBits z ≤ 1048576) ∧ SqL (K w.params) H a (ns.map V.int) ∧ ∀ H', Q (.bl true) H'
  refine L2.walk_ofB (l := l) (n := 63) (k := k) (x := x) (K := K) (CX := fun w => L2.CX l.prog w) (sp := sp) hn (by rw [PySem.sizeLine_eq]; decide) hdf (Room.mono (k := 60) ⟨rfl, by decide, by decide⟩ (by omega)) hY (fun w mg fa h a b c => ?_) (fun w H a ns hl hb _ hS => ⟨rfl, a, ns, rfl, hl, hb, hS, fun _ => rfl⟩) ?_
  · obtain ⟨fd, b1, b2⟩ := FF w mg fa h a b c
    refine ⟨fd, b1, fun base k1 k2 => ?_⟩
    have f := b2 base k1 k2
    refine ⟨fun vs H Q E h => h.1, fun A outer s H args us vs Q E r e bt vv hsp => f.run A outer s H args us vs Q E r e bt vv ?_⟩
    obtain ⟨_, a, ns, rfl, hl, hb, hS, hq⟩ := hsp
    refine ⟨rfl, [.lst (ns.map D.int)], H, Sub.refl H, ⟨_, _, rfl, ⟨a, _, rfl, hS, RepL.of_ints ns⟩, rfl⟩, ?_⟩
    rw [law ns hl hb]
    exact fun H' G' _ v hv => by cases (show v = .bl true from hv); exact hq H'
  · rintro w H s e s' ⟨_, _, _, _, _, _, _, _, _, _, _, _, z⟩
    exact z
end DL

namespace DL
open PySem PySem.Spec PyProof.Rows L2
open PySem.Builtin.Int (intBits)
/-! ### which classes an "except" names -/
theorem Clause.nil {K : PySem.W.Frag} {mg : Str → Option Value} {c : Value} : Clause K mg c (fun _ => none) := fun k b cls h _ => by cases h
theorem Clause.cons {K : PySem.W.Frag} {mg : Str → Option Value} {c : Value} {n : String} {C : Addr} {b : Bool} {f : String → Option Bool} (hm : mg (Str.ofString n) = some (.ref C)) (he : PySem.W.exmOne K (.ref C) c = some b) (t : Clause K mg c f) : Clause K mg c (fun s => if s = n then some b else f s) := fun k b' cls h hc => by
  dsimp only at h
  by_cases hk : k = n
  · subst hk
    rw [if_pos rfl] at h
    cases h
    rw [hm] at hc
    cases hc
    exact he
  · rw [if_neg hk] at h
    exact t k b' cls h hc
/-! ### a module's constant -/
structure ConOk (K : PySem.W.Frag) (mg : Str → Option Value) (x : String) (d : D) : Prop where
  ok : ∃ u v, mg (Str.ofString x) = some u ∧ RelV v u ∧ ∀ G, Rep K G d v
/-- a value of the written part is the data d -/
structure Con (K : PySem.W.Frag) (d : D) (u : Value) : Prop where
  ok : ∃ v, RelV v u ∧ ∀ G, Rep K G d v
theorem Con.int {K : PySem.W.Frag} {i : Int} {t : Tok} : Con K (.int i) (.int i t) := ⟨.int i, ⟨t, rfl⟩, fun _ => rfl⟩
theorem Con.str {K : PySem.W.Frag} {x : Str} {t : Tok} : Con K (.str x) (.str x t) := ⟨.str x, ⟨t, rfl⟩, fun _ => rfl⟩
def Cons (K : PySem.W.Frag) : List D → List Value → Prop
  | [], us => us = []
  | d :: ds, us => ∃ u r, us = u :: r ∧ Con K d u ∧ Cons K ds r
theorem Cons.rep {K : PySem.W.Frag} : ∀ {ds : List D} {us : List Value}, Cons K ds us → ∃ vs, Vals vs us ∧ ∀ G, RepL K G ds vs
  | [], _, rfl => ⟨[], .nil, fun _ => rfl⟩
  | d :: ds, _, ⟨u, r, rfl, h, t⟩ => by
    obtain ⟨v, h1, h2⟩ := h.ok
    obtain ⟨vs, h3, h4⟩ := Cons.rep t
    exact ⟨v :: vs, .cons h1 h3, fun G => ⟨v, vs, rfl, h2 G, h4 G⟩⟩
theorem Con.tup {K : PySem.W.Frag} {a : Addr} {us : List Value} {n : Nat} {sl : Array (Option Value)} {ds : List D} (h : K.lookup a = some ⟨.type "tuple", none, .seq us.toArray n, sl⟩) (c : Cons K ds us) (hn : us.length ≤ 1000) : Con K (.con ds) (.ref a) := by
  obtain ⟨vs, h3, h4⟩ := c.rep
  refine ⟨.ref a, rfl, fun G => ⟨a, vs, rfl, .inr ⟨_, _, n, h, rfl, rfl, rfl, ?_, by simpa using h3⟩, h4 G⟩⟩
  rw [PySem.sizeLine_eq]
  simp
  omega
theorem Con.at {K : PySem.W.Frag} {mg : Str → Option Value} {x : String} {d : D} {u : Value} (h : Con K d u) (hm : mg (Str.ofString x) = some u) : ConOk K mg x d := by
  obtain ⟨v, h1, h2⟩ := h.ok
  exact ⟨u, v, hm, h1, h2⟩
end DL

namespace DL
open PySem PySem.Spec PyProof.Rows L2
open PySem.Builtin.Int (intBits)
/-! ### range of three -/
def prog3 (i c : Int) (n : Nat) : List D := (List.range n).map fun k => D.int (i + (k : Nat) * c)
open Classical in
noncomputable def rg3 (i j c : Int) : Res (List D) := if h : ∃ n, RgC i j c n then .ok (prog3 i c (Classical.choose h)) else .bad
noncomputable def r3D : D → D → D → Res (List D) := fun x y z => match x, y, z with
  | .int i, .int j, .int c => rg3 i j c
  | _, _, _ => .bad
noncomputable def iRange3 (f g h : DL.Env → Res D) : DL.Env → Res (List D) := fun e => (f e).bind fun x => (g e).bind fun y => (h e).bind fun z => r3D x y z
section
variable {X : Cx} {W : WX} {A : Nat → Prop} {a b c : Expr} {pos : Pos}
/-- x, y = a, b with no tuple made -/
def sPar (al : List Nat) (i j : Nat) (fs : DL.Env → Res (List D)) : DL.Env → Out := sE al fs fun ds e => match ds with
  | [x, y] => .nx ((e.set i (some (x, false))).set j (some (y, false)))
  | _ => .bad
/-! ### zip of two -/
end
end DL

namespace DL
open PySem PySem.Spec PyProof.Rows L2
open PySem.Builtin.Int (intBits)
/-! ### str of truth values and numbers -/
def dStr : D → Res D
  | .bl b => .ok (.str (if b = true then "True" else "False"))
  | _ => .bad
/-! ### except X as e -/
/-- the error's name is gone behind the suite; nothing is raised out of it -/
def clrN (i : Nat) : Out → Out
  | .nx e => .nx (e.set i none)
  | .bk e => .bk (e.set i none)
  | .ct e => .ct (e.set i none)
  | .rt d => .rt d
  | .ro d => .ro d
  | .rm d e => .rm d (e.set i none)
  | _ => .bad
open Classical in
/-- what is so at every address -/
noncomputable def unif (g : Addr → Out) : Out := if h : ∃ r, ∀ a, g a = r then Classical.choose h else .bad
theorem unif_of {g : Addr → Out} {r : Out} (h : ∀ a, g a = r) : unif g = r := by
  have hx : ∃ r, ∀ a, g a = r := ⟨r, h⟩
  unfold unif
  rw [dif_pos hx]
  exact (Classical.choose_spec hx 0).symm.trans (h 0)
noncomputable def sTryAs (i : Nat) (h : String → Option Bool) (fb : DL.Env → Out) (fs : Addr → String → DL.Env → Out) : DL.Env → Out := fun e => match fb e with
  | .ex c fs' e' => match h c with
    | some true => if fs' = [] then unif fun a => clrN i (fs a c (e'.set i (some (.obj (.ref a), false)))) else .bad
    | some false => .ex c fs' e'
    | none => .bad
  | r => r
section
variable {X : Cx} {W : WX} {A : Nat → Prop} {a b : Expr} {rest : List Expr} {pos p p1 p2 : Pos} {H0 : Bas} {G0 : Hp}
/-! ### isinstance of the caught error -/
def IsTab (K : PySem.W.Frag) (mg : Str → Option Value) (cv : Value) (t : String → Option Bool) : Prop := ∀ c b cls, t c = some b → mg (Str.ofString c) = some cls → ∃ C, cls = .ref C ∧ ExcC K C ∧ PySem.W.kitOne K (.ref C) cv = some b
theorem IsTab.nil {K : PySem.W.Frag} {mg : Str → Option Value} {cv : Value} : IsTab K mg cv (fun _ => none) := fun c b cls h _ => by cases h
theorem IsTab.cons {K : PySem.W.Frag} {mg : Str → Option Value} {cv : Value} {n : String} {C : Addr} {b : Bool} {f : String → Option Bool} (hm : mg (Str.ofString n) = some (.ref C)) (hc : ExcC K C) (he : PySem.W.kitOne K (.ref C) cv = some b) (t : IsTab K mg cv f) : IsTab K mg cv (fun s => if s = n then some b else f s) := fun k b' cls h hcl => by
  dsimp only at h
  by_cases hk : k = n
  · subst hk
    rw [if_pos rfl] at h
    cases h
    rw [hm] at hcl
    cases hcl
    exact ⟨C, rfl, hc, he⟩
  · rw [if_neg hk] at h
    exact t k b' cls h hcl
def eIsE (i : Nat) (a : Addr) (o : Option Bool) : DL.Env → Res D := fun e => match e[i]? with
  | some (some (.obj (.ref a'), false)) => if a' = a then (match o with | some b => .ok (.bl b) | none => .bad) else .bad
  | _ => .bad
end
end DL

namespace DL
open PySem PySem.Spec PyProof.Rows L2
open PySem.Builtin.Int (intBits)
/-! ### dicts: the data -/
open Classical in
/-- what stands at a key -/
noncomputable def dFind (kvs : List (D × D)) (k : D) : Option D := (kvs.find? fun p => decide (p.1 = k)).map (·.2)
open Classical in
/-- a key set -/
noncomputable def dSet (kvs : List (D × D)) (k d : D) : List (D × D) := if (kvs.any fun p => decide (p.1 = k)) = true then kvs.map (fun p => if p.1 = k then (p.1, d) else p) else kvs ++ [(k, d)]
theorem keyD_inj {a b : Key} (h : keyD a = keyD b) : a = b := by
  cases a <;> cases b <;> simp [keyD] at h <;> rw [h]
theorem keyT_inj : ∀ {a b : List Key}, keyT a = keyT b → a = b := by
  intro a b h
  unfold keyT at h
  injection h with h
  induction a generalizing b with
  | nil => cases b with
    | nil => rfl
    | cons _ _ => simp at h
  | cons x a ih => cases b with
    | nil => simp at h
    | cons y b =>
      simp only [List.map_cons, List.cons.injEq] at h
      rw [keyD_inj h.1, ih h.2]
section
variable {κ : Type} [DecidableEq κ] {f : κ → D} {K : PySem.W.Frag} {G : Hp}
theorem repv_find (hf : ∀ a b, f a = f b → a = b) : ∀ {kvs : List (D × D)} {ps : List (κ × V)}, kvs.map (·.1) = ps.map (fun p => f p.1) → RepV K G kvs (ps.map (·.2)) → ∀ k : κ,
    (dFind kvs (f k) = none ∧ valV ps k = none) ∨ ∃ d v, dFind kvs (f k) = some d ∧ valV ps k = some v ∧ Rep K G d v
  | [], [], _, _, k => .inl ⟨rfl, rfl⟩
  | [], _ :: _, h, _, _ => by simp at h
  | _ :: _, [], h, _, _ => by simp at h
  | (k0, d0) :: kvs, (c0, v0) :: ps, h, r, k => by
    simp only [List.map_cons, List.cons.injEq] at h
    obtain ⟨v, r', e, r1, r2⟩ := r
    simp only [List.map_cons, List.cons.injEq] at e
    obtain ⟨e1, e2⟩ := e
    subst e1 e2
    have ih := repv_find hf h.2 r2 k
    have hk0 : k0 = f c0 := h.1
    subst hk0
    by_cases hk : c0 = k
    · subst hk
      refine .inr ⟨d0, v0, ?_, ?_, r1⟩
      · simp [dFind]
      · simp [valV]
    · have hk' : ¬ f c0 = f k := fun z => hk (hf _ _ z)
      have e1 : dFind ((f c0, d0) :: kvs) (f k) = dFind kvs (f k) := by simp [dFind, hk']
      have e2 : valV ((c0, v0) :: ps) k = valV ps k := by simp [valV, hk]
      rw [e1, e2]
      exact ih
theorem any_same (hf : ∀ a b, f a = f b → a = b) : ∀ {kvs : List (D × D)} {ps : List (κ × V)}, kvs.map (·.1) = ps.map (fun p => f p.1) → ∀ k : κ,
    (∃ p ∈ kvs, p.1 = f k) ↔ ∃ p ∈ ps, p.1 = k
  | [], [], _, k => by simp
  | [], _ :: _, h, _ => by simp at h
  | _ :: _, [], h, _ => by simp at h
  | (k0, d0) :: kvs, (c0, v0) :: ps, h, k => by
    simp only [List.map_cons, List.cons.injEq] at h
    have ih := any_same hf h.2 k
    have hk0 : k0 = f c0 := h.1
    subst hk0
    simp only [List.mem_cons, exists_eq_or_imp, ih]
    constructor
    · rintro (z | z)
      · exact .inl (hf _ _ z)
      · exact .inr z
    · rintro (z | z)
      · exact .inl (by rw [z])
      · exact .inr z
open Classical in
theorem repv_map (hf : ∀ a b, f a = f b → a = b) {d : D} {v : V} (rd : Rep K G d v) (k : κ) : ∀ {kvs : List (D × D)} {ps : List (κ × V)}, kvs.map (·.1) = ps.map (fun p => f p.1) → RepV K G kvs (ps.map (·.2)) →
    (kvs.map (fun p => if p.1 = f k then (p.1, d) else p)).map (·.1) = (ps.map fun kv => if kv.1 = k then (kv.1, v) else kv).map (fun p => f p.1) ∧ RepV K G (kvs.map (fun p => if p.1 = f k then (p.1, d) else p)) ((ps.map fun kv => if kv.1 = k then (kv.1, v) else kv).map (·.2))
  | [], [], _, _ => ⟨rfl, rfl⟩
  | [], _ :: _, h, _ => by simp at h
  | _ :: _, [], h, _ => by simp at h
  | (k0, d0) :: kvs, (c0, v0) :: ps, h, r => by
    simp only [List.map_cons, List.cons.injEq] at h
    obtain ⟨v1, r', e, r1, r2⟩ := r
    simp only [List.map_cons, List.cons.injEq] at e
    obtain ⟨e1, e2⟩ := e
    subst e1 e2
    obtain ⟨a, b⟩ := repv_map hf rd k h.2 r2
    have hk0 : k0 = f c0 := h.1
    subst hk0
    by_cases hk : c0 = k
    · subst hk
      simp only [List.map_cons, if_true]
      exact ⟨by rw [← a], v, _, rfl, rd, b⟩
    · have hk' : ¬ f c0 = f k := fun z => hk (hf _ _ z)
      simp only [List.map_cons, if_neg hk, if_neg hk']
      exact ⟨by rw [← a], v0, _, rfl, r1, b⟩
theorem repv_app : ∀ {kvs : List (D × D)} {vs : List V} {k d : D} {v : V}, RepV K G kvs vs → Rep K G d v → RepV K G (kvs ++ [(k, d)]) (vs ++ [v])
  | [], _, k, d, v, rfl, h => ⟨v, [], rfl, h, rfl⟩
  | (_, d0) :: kvs, _, k, d, v, ⟨v0, r', e, r1, r2⟩, h => ⟨v0, r' ++ [v], by rw [e]; rfl, r1, repv_app r2 h⟩
/-- a key set: data and values stay together -/
theorem repv_set (hf : ∀ a b, f a = f b → a = b) {kvs : List (D × D)} {ps : List (κ × V)} (h : kvs.map (·.1) = ps.map (fun p => f p.1)) (r : RepV K G kvs (ps.map (·.2))) {d : D} {v : V} (rd : Rep K G d v) (k : κ) :
    (dSet kvs (f k) d).map (·.1) = (putK ps k v).map (fun p => f p.1) ∧ RepV K G (dSet kvs (f k) d) ((putK ps k v).map (·.2)) := by
  have ha := any_same hf h k
  unfold dSet putK
  by_cases hx : ∃ p ∈ ps, p.1 = k
  · rw [if_pos (by simpa using ha.mpr hx), if_pos (by simpa using hx)]
    exact repv_map hf rd k h r
  · have hy : ¬ ∃ p ∈ kvs, p.1 = f k := fun z => hx (ha.mp z)
    rw [if_neg (by simpa using hy), if_neg (by simpa using hx)]
    refine ⟨by simp [h], ?_⟩
    rw [List.map_append]
    exact repv_app r rd
end
end DL

namespace DL
open PySem PySem.Spec PyProof.Rows L2
open PySem.Builtin.Int (intBits)
/-! ### dicts: the rules -/
def eDNew (t : Bool) : DL.Env → Res D := fun _ => .ok (.dct t [])
section
variable {X : Cx} {W : WX} {A : Nat → Prop} {a b : Expr} {rest : List Expr} {pos p p1 p2 apos cpos : Pos} {H0 : Bas} {G0 : Hp}
theorem df_dnewT : DF X W A (.Dict [] [] pos) (eDNew true) :=
  pe_dnewT.imp fun σ H Q ⟨e, G, E, q⟩ p hp => q (upd H p (.dT [])) G ⟨Sub.upd hp, Sub.refl _, E.sub.trans (Sub.upd hp), fun b z => .inl z⟩ p hp (E.sub.free hp) (.inr ⟨rfl, [], upd_same, rfl, rfl⟩)
/-- a key that fits the dict's kind -/
def D.isKey : D → Bool
  | .int _ => true
  | .str _ => true
  | _ => false
def D.keyOk (t : Bool) : D → Bool
  | .tup ds => t && ds.all D.isKey
  | d => !t && d.isKey
theorem key_of {d : D} (h : d.isKey = true) : ∃ k : Key, d = keyD k := by
  cases d with
  | int i => exact ⟨.inl i, rfl⟩
  | str x => exact ⟨.inr x, rfl⟩
  | _ => cases h
theorem keys_of : ∀ {ds : List D}, ds.all D.isKey = true → ∃ ks : List Key, ds = ks.map keyD
  | [], _ => ⟨[], rfl⟩
  | d :: ds, h => by
    simp only [List.all_cons, Bool.and_eq_true] at h
    obtain ⟨k, e⟩ := key_of h.1
    obtain ⟨ks, e2⟩ := keys_of h.2
    exact ⟨k :: ks, by rw [e, e2]; rfl⟩
theorem rep_key {K : PySem.W.Frag} {G : Hp} {k : Key} {v : V} (r : Rep K G (keyD k) v) : v = kV k := by
  cases k with
  | inl i => exact r
  | inr x => exact r
theorem rep_keys {K : PySem.W.Frag} {G : Hp} : ∀ {ks : List Key} {vs : List V}, RepL K G (ks.map keyD) vs → vs = ks.map kV
  | [], _, h => h
  | k :: ks, _, ⟨v, r, e, h1, h2⟩ => by rw [e, rep_key h1, rep_keys h2]; rfl
/-- what a dict tells at a key -/
theorem dget_rep {K : PySem.W.Frag} {H G : Hp} {t : Bool} {kvs : List (D × D)} {a : Addr} {k : D} {y : V} (sg : Sub G H) (r : RepC K H G (.dct t kvs) (.ref a)) (hk : D.keyOk t k = true) (ry : Rep K G k y) :
    ∃ o, DGet H a y o ∧ ((dFind kvs k = none ∧ o = none) ∨ ∃ d v, dFind kvs k = some d ∧ o = some v ∧ Rep K G d v) := by
  obtain ⟨a', ea, h⟩ := r
  cases ea
  rcases h with ⟨t0, ps, s, hkeys, rv⟩ | ⟨t0, ps, s, hkeys, rv⟩
  · subst t0
    have hk' : k.isKey = true := by
      cases k with
      | tup ds => simp [D.keyOk] at hk
      | _ => simpa [D.keyOk] using hk
    obtain ⟨κ, e⟩ := key_of hk'
    subst e
    refine ⟨valV ps κ, .inl ⟨ps, κ, s, rep_key ry, rfl⟩, ?_⟩
    exact repv_find (fun _ _ => keyD_inj) hkeys rv κ
  · subst t0
    cases k with
    | tup ds =>
      have hk' : ds.all D.isKey = true := by simpa [D.keyOk] using hk
      obtain ⟨ks, e⟩ := keys_of hk'
      subst e
      obtain ⟨b, vs, e1, e2, e3⟩ := ry
      have := rep_keys e3
      subst this
      refine ⟨valV ps ks, .inr ⟨ps, ks, b, s, e1, sg _ _ e2, rfl⟩, ?_⟩
      exact repv_find (f := keyT) (fun _ _ => keyT_inj) hkeys rv ks
    | _ => simp [D.keyOk] at hk
/-- d[k] -/
noncomputable def dAt : D → D → Res D := fun d k => match d with
  | .dct t kvs => if D.keyOk t k = true then (match dFind kvs k with | some x => .ok x | none => .bad) else .bad
  | _ => .bad
theorem de_dix {fa fb : DL.Env → Res D} (hu : X.A.units + 1 < cLine) (ha : DR X W A a fa) (hb : DE X W A b fb) (hs : NoSl b) : DE X W A (.Subscript a b pos) (eOp dAt fa fb) :=
  (pe_dget hu ha hb hs).imp fun σ H Q ⟨e, G, E, q⟩ => ⟨e, G, E, q.split.imp fun d H1 G1 x1 q1 v rv => ⟨e, G1, E.ext x1, q1.split.imp fun k H2 G2 x2 q2 y ry => by
    have rv := rv.mono x2.hh x2.gg
    cases d with
    | dct t kvs =>
      dsimp only [dAt] at q2
      by_cases hk : D.keyOk t k = true
      · rw [if_pos hk] at q2
        obtain ⟨a', ea, _⟩ := id rv
        subst ea
        obtain ⟨o, h1, h2⟩ := dget_rep x2.gh rv hk ry
        rcases h2 with ⟨e1, e2⟩ | ⟨d, w, e1, e2, e3⟩
        · rw [e1] at q2; exact q2.elim
        · rw [e1] at q2
          subst e2
          exact ⟨a', w, rfl, h1, q2.here x2.gh w e3⟩
      · rw [if_neg hk] at q2; exact q2.elim
    | _ => exact (show False from q2).elim⟩⟩
/-- d.get(k, x) -/
noncomputable def dGet2 : D → D → D → Res D := fun d k x => match d with
  | .dct t kvs => if D.keyOk t k = true then .ok ((dFind kvs k).getD x) else .bad
  | _ => .bad
noncomputable def eGet2 (fa fb fc : DL.Env → Res D) : DL.Env → Res D := fun e => (fa e).bind fun d => match d with
  | .dct t kvs => (fb e).bind fun k => (fc e).bind fun x => dGet2 (.dct t kvs) k x
  | _ => .bad
theorem de_get2 {c : Expr} {fa fb fc : DL.Env → Res D} (hu : X.A.units + 1 < cLine) (ha : DR X W A a fa) (hb : DE X W A b fb) (hc : DE X W A c fc) (m : M2 X a "get" apos b c cpos) : DE X W A (.Call (.Attribute a "get" apos) [b, c] [] cpos) (eGet2 fa fb fc) :=
  (pe_dget2 hu ha hb hc m).imp fun σ H Q ⟨e, G, E, q⟩ => ⟨e, G, E, q.split.imp fun d H1 G1 x1 q1 v rv => by
    cases d with
    | dct t kvs =>
      dsimp only at q1
      obtain ⟨a', ea, hd⟩ := id rv
      subst ea
      refine ⟨a', rfl, ?_, e, G1, E.ext x1, q1.split.imp fun k H2 G2 x2 q2 y ry => ⟨e, G2, (E.ext x1).ext x2, q2.split.imp fun x H3 G3 x3 q3 z rz => ?_⟩⟩
      · rcases hd with ⟨_, ps, s, _⟩ | ⟨_, ps, s, _⟩
        · exact .inl ⟨ps, s⟩
        · exact .inr ⟨ps, s⟩
      · have rv := (rv.mono x2.hh x2.gg).mono x3.hh x3.gg
        dsimp only [dGet2] at q3
        by_cases hk : D.keyOk t k = true
        · rw [if_pos hk] at q3
          obtain ⟨o, h1, h2⟩ := dget_rep x3.gh rv hk (ry.mono x3.gg)
          rcases h2 with ⟨e1, e2⟩ | ⟨d, w, e1, e2, e3⟩
          · rw [e1] at q3
            subst e2
            exact ⟨none, h1, q3.here x3.gh z rz⟩
          · rw [e1] at q3
            subst e2
            exact ⟨some w, h1, q3.here x3.gh w e3⟩
        · rw [if_neg hk] at q3; exact q3.elim
    | _ => exact (show False from q1).elim⟩
end
end DL

namespace DL
open PySem PySem.Spec PyProof.Rows L2
open PySem.Builtin.Int (intBits)
theorem _root_.L2.Room.hu1 {k : Nat} {A : Around} (h : Room k A) : A.units + 1 < cLine := by have := h.un; omega
/-- the dict that the name i holds, to be changed -/
def ownD (i : Nat) (e : DL.Env) (k : Bool → List (D × D) → Out) : Out := match e[i]? with
  | some (some (.dct t kvs, true)) => k t kvs
  | _ => .bad
/-- x[k] = v -/
noncomputable def sPutD (al : List Nat) (i : Nat) (fk fv : DL.Env → Res D) : DL.Env → Out := fun e => ownD i (fz al e) fun t kvs => sE al (fun e => (fv e).bind fun v => (fk e).bind fun k => .ok (k, v)) (fun kv e' =>
  if D.keyOk t kv.1 = true ∧ kvs.length < sizeLine then .nx (e'.set i (some (.dct t (dSet kvs kv.1 kv.2), true))) else .bad) e
section
variable {X : Cx} {W : WX} {H0 : Bas} {G0 : Hp} {al : List Nat} {pos p1 p2 : Pos}
theorem ownD_inv {i : Nat} {e : DL.Env} {k : Bool → List (D × D) → Out} {Z : Ends} {K : PySem.W.Frag} {mg : Str → Option Value} (p : SPost K mg W H0 G0 (ownD i e k) Z) : ∃ t kvs, e[i]? = some (some (.dct t kvs, true)) ∧ SPost K mg W H0 G0 (k t kvs) Z := by
  unfold ownD at p
  split at p
  · rename_i t kvs h; exact ⟨t, kvs, h, p⟩
  · exact p.elim
theorem ds_putD {i : Nat} {x : Str} {ik ev : Expr} {fk fv : DL.Env → Res D} (hu : X.A.units + 1 < cLine) (hN : X.N[i]? = some x) (hv : Vis X.env.scope x) (hk : DE X W (fun i => i ∈ al) ik fk) (he : DE X W (fun i => i ∈ al) ev fv)
    (hd : (x == ("__debug__" : Str)) = false := by decide) (hcd : (x == ("__classdict__" : Str)) = false := by decide)
    (hs : swapsWith ev (some (.Subscript (.Name x p1) ik p2)) pos.line X.env = pure false := by rfl) :
    DS X W H0 G0 (.Assign [.Subscript (.Name x p1) ik p2] ev pos) (sPutD al i fk fv) := by
  refine (ps_dput hu (pe_var hN hv hd hcd) hk he hs).lk fun Z σ H ⟨e, G, S, p⟩ => (S.exp al).imp fun H ⟨G1, GA, S0, E, nxt⟩ => ?_
  have S1 := nxt H GA (Ext.refl E.sub)
  obtain ⟨t, kvs, hx, p⟩ := ownD_inv p
  obtain ⟨a, q1, _, _, q4⟩ := S1.ow i _ hx
  unfold sE at p
  dsimp only at p
  refine ⟨e, GA, E, ?_⟩
  cases hr : fv e with
  | exc c fs' =>
    rw [hr] at p
    exact fun cls o H' s ix => p cls o σ H GA H' S1 s ix
  | bad => rw [hr] at p; exact p.elim
  | ok dv =>
    rw [hr] at p
    intro H1 G1 x1 v rv
    refine ⟨.ref a, q1, e, G1, E.ext x1, ?_⟩
    cases hr2 : fk e with
    | exc c fs' =>
      simp only [Res.bind_ok, hr2] at p
      exact fun cls o H' s ix => p cls o σ H1 G1 H' (nxt H1 G1 x1) s ix
    | bad => simp only [Res.bind_ok, hr2] at p; exact p.elim
    | ok dk =>
      simp only [Res.bind_ok, hr2] at p
      intro H2 G2 x2 k rk
      have xx := x1.trans x2
      have S2 := nxt H2 G2 xx
      have rv2 := rv.mono x2.gg
      by_cases hc : D.keyOk t dk = true ∧ kvs.length < sizeLine
      · rw [if_pos hc] at p
        have q4' := q4.mono xx.hh xx.gg
        rcases q4' with ⟨t0, ps, s, hkeys, rvv⟩ | ⟨t0, ps, s, hkeys, rvv⟩
        · subst t0
          have hk' : dk.isKey = true := by
            cases dk with
            | tup ds => simp [D.keyOk] at hc
            | _ => simpa [D.keyOk] using hc.1
          obtain ⟨κ, ek⟩ := key_of hk'
          subst ek
          have hl : ps.length < sizeLine := by
            have := congrArg List.length hkeys
            rw [List.length_map, List.length_map] at this
            omega
          obtain ⟨n1, n2⟩ := repv_set (fun _ _ => keyD_inj) hkeys rvv rv2 κ
          refine ⟨a, _, rfl, .inl ⟨ps, κ, s, rep_key rk, hl, rfl⟩, ?_⟩
          exact p σ _ G2 (S2.change hx q1 (.inl ⟨rfl, _, upd_same, n1, n2⟩))
        · subst t0
          cases dk with
          | tup ds =>
            have hk' : ds.all D.isKey = true := by simpa [D.keyOk] using hc.1
            obtain ⟨ks, ek⟩ := keys_of hk'
            subst ek
            obtain ⟨b, vs, e1, e2, e3⟩ := rk
            have ev' := rep_keys e3
            subst ev'
            have hl : ps.length < sizeLine := by
              have := congrArg List.length hkeys
              rw [List.length_map, List.length_map] at this
              omega
            obtain ⟨n1, n2⟩ := repv_set (f := keyT) (fun _ _ => keyT_inj) hkeys rvv rv2 ks
            refine ⟨a, _, rfl, .inr ⟨ps, ks, b, s, e1, xx.gh _ _ e2, hl, rfl⟩, ?_⟩
            exact p σ _ G2 (S2.change hx q1 (.inr ⟨rfl, _, upd_same, n1, n2⟩))
          | _ => simp [D.keyOk] at hc
      · rw [if_neg hc] at p; exact p.elim
end
end DL

/-! sorting tuples of any lengths, empty ones too -/
namespace DL
open PySem PySem.W PySem.Calls PyProof.Rows PySem.SeqAt
section
variable {prog : Program} {w : World} {A : Around} {s : Shared}
def hasItem : PyData → Bool
  | .tuple (_ :: _) => true
  | _ => false
theorem firsts_tups {M : Model} {E : Value → Shared → Prop} : ∀ {vs : List Value} {ds : List PyData} {Q : List (Option Value) → Shared → Prop}, EachIs (fun v d => ∃ as, Reads s.heap v d as) vs ds → (∀ d, d ∈ ds → ∃ xs, d = .tuple xs) →
    (∀ fs : List (Option Value), fs.map (·.isSome) = ds.map hasItem → Q fs s) → wpAny M A (vs.mapM firstOfTuple') Q E s
  | _, _, Q, .nil, _, h => by rw [List.mapM_nil]; exact wpAny_pure (h [] rfl)
  | _, _, Q, .cons (a := v) (as := vs) (b := d) (bs := ds) ⟨as, r⟩ t, ht, h => by
    obtain ⟨xs, rfl⟩ := ht d (List.mem_cons_self ..)
    rw [List.mapM_cons]
    refine wpAny_bind ?_
    rw [kas_first_eq]
    cases r with
    | @tuple a o vals n _ _ ho hc hd hr =>
      refine wpAny_bind (Looks.here (show Looks M s.heap (typeOf (.ref a)) o.cls from (Looks.ld ho).andThen .now) ?_)
      rw [hc, if_neg (by first | decide | simp)]
      refine wpAny_bind (listItems_at ho hd (wpAny_pure ?_))
      refine wpAny_bind (firsts_tups t (fun d hd => ht d (List.mem_cons_of_mem _ hd)) fun fs hfs => wpAny_pure (h _ ?_))
      rw [List.map_cons, List.map_cons, hfs]
      congr 1
      rw [← Array.getElem?_toList]
      cases xs with
      | nil =>
        generalize vals.toList = l at hr
        cases hr
        rfl
      | cons x xs =>
        generalize vals.toList = l at hr
        cases hr
        rfl
/-- tuple.__lt__ asked straight -/
theorem oneLt_tups {x y : Addr} {d e : List PyData} {as bs : List Addr} {E : Value → Shared → Prop} {Q : Bool → Shared → Prop} (ra : Reads s.heap (.ref x) (.tuple d) as) (rb : Reads s.heap (.ref y) (.tuple e) bs) (hal : alike (.tuple d) (.tuple e) = true)
    (hu : A.units + min (PyData.tuple d).depth (PyData.tuple e).depth < cLine) (h : Q (dataLt (.tuple d) (.tuple e)) s) : wpAny (model prog w) A (oneLt' true (.ref x) (.ref y)) Q E s := by
  have hall : alikeAll d e = true := by simpa [alike] using hal
  have room := hu
  cases ra with
  | @tuple _ o vs n _ as₁ h1 h2 h3 h4 =>
    cases rb with
    | @tuple _ o' vs' n' _ bs₁ k1 k2 k3 k4 =>
      have n1 : vs.size = d.length := by simpa using ReadsAll.length _ _ _ h4
      have n2 : vs'.size = e.length := by simpa using ReadsAll.length _ _ _ k4
      obtain ⟨cls, dd, data, sl⟩ := o
      obtain ⟨cls', dd', data', sl'⟩ := o'
      simp only at h2 h3 k2 k3
      subst h2 h3 k2 k3
      rw [oneLt'_eq]
      simp only [if_true]
      refine wpAny_bind (wpAny_cRoomFor (SeqAt.room_here hu) ?_)
      refine wpAny_bind (wpAny_callSpecialIfBound?_slot (T := "tuple") (s := s) (show s.TypeIs (.ref x) "tuple" from ⟨_, h1, rfl⟩) PySem.F.slot_tuple_lt ?_)
      rw [dataLt_tuple, ← firstLt_toks d e hall, ← n1, ← n2] at h
      refine call_meets PySem.F.slot_tuple_lt ⟨_, h1, rfl⟩ PySem.F.entry_tuple_lt (PySem.F.args_tuple_lt_2 _ _) (PySem.SeqAt.tuple_ltAt x y vs vs' n n' dd dd' sl sl' (pairEq d e) (fun j => dataLt (d.getD j .none) (e.getD j .none))) ⟨h1, k1, fun j j1 j2 => ?_, fun j j1 j2 hj => ?_, ?_⟩
      · have := eqAt_alikeAll d e A.in1 s vs.toList vs'.toList _ _ h4 k4 hall (SeqAt.room_in hu) j (by simpa using j1) (by simpa using j2)
        simpa using this
      · have := rcLt_alikeAll d e A.in1 s vs.toList vs'.toList _ _ h4 k4 hall (SeqAt.room_in hu) j (by simpa using j1) (by simpa using j2) hj
        simpa using this
      · exact wpAny_truthy_bool h
/-- the kind that list.sort finds -/
theorem kind_tups {vs : List Value} {ds : List PyData} (e : EachIs (fun v d => ∃ as, Reads s.heap v d as) vs ds) (ht : ∀ d, d ∈ ds → ∃ xs, d = .tuple xs) (hno : ∃ d, d ∈ ds ∧ hasItem d = false) :
    ∃ k : SortKind, (k = oneType' ∨ k = general') ∧ ∀ (M : Model) (E : Value → Shared → Prop) (Q : SortKind → Shared → Prop), Q k s → wpAny M A (keyKind' vs.toArray) Q E s := by
  cases ds with
  | nil => obtain ⟨d, hd, _⟩ := hno; cases hd
  | cons d₀ ds =>
    have hall : ∀ fs : List (Option Value), fs.map (·.isSome) = (d₀ :: ds).map hasItem → (fs.toArray.all fun x => x.isSome) = false := by
      intro fs hfs
      obtain ⟨d, hd, hf⟩ := hno
      have : false ∈ fs.map (·.isSome) := by rw [hfs]; exact List.mem_map.mpr ⟨d, hd, hf⟩
      obtain ⟨x, hx, hx2⟩ := List.mem_map.mp this
      rw [Bool.eq_false_iff]
      intro hA
      simp only [List.all_toArray, List.all_eq_true] at hA
      rw [hA x hx] at hx2
      cases hx2
    cases hd0 : hasItem d₀ with
    | true =>
      refine ⟨general', .inr rfl, fun M E Q q => ?_⟩
      rw [kat_kind_eq, List.mapM_toArray, map_eq_pure_bind]
      refine wpAny_bind (wpAny_bind (firsts_tups e ht fun fs hfs => wpAny_pure ?_))
      rw [if_neg (by rw [hall fs hfs]; decide)]
      cases fs with
      | nil => cases hfs
      | cons f fs =>
        rw [List.map_cons, List.map_cons, hd0] at hfs
        have hf : f.isSome = true := (List.cons.inj hfs).1
        have e0 : ((f :: fs).toArray[0]?.bind id).isSome = true := by simpa using hf
        rw [if_pos e0]
        exact wpAny_pure q
    | false =>
      refine ⟨oneType', .inl rfl, fun M E Q q => ?_⟩
      rw [kat_kind_eq, List.mapM_toArray, map_eq_pure_bind]
      refine wpAny_bind (wpAny_bind (firsts_tups e ht fun fs hfs => wpAny_pure ?_))
      rw [if_neg (by rw [hall fs hfs]; decide)]
      cases fs with
      | nil => cases hfs
      | cons f fs =>
        rw [List.map_cons, List.map_cons, hd0] at hfs
        have hf : f.isSome = false := (List.cons.inj hfs).1
        have e0 : ((f :: fs).toArray[0]?.bind id).isSome = false := by simpa using hf
        rw [if_neg (by rw [e0]; decide)]
        rw [oneTypeOnly'_eq, List.mapM_toArray, map_eq_pure_bind]
        refine wpAny_bind (wpAny_bind (wpAny_bind (kas_mapM (r := Value.type "tuple") _ (fun v hv Q' hq => ?_) (wpAny_pure ?_))))
        · obtain ⟨d, hd, as, r⟩ := e.left v hv
          obtain ⟨xs, rfl⟩ := ht d hd
          exact (looks_reads r).here hq
        · cases e with
          | cons h t =>
            rename_i v vs
            have hall2 : ((List.map (fun _ => Value.type "tuple") (v :: vs)).toArray.all fun x => x == Value.type "tuple") = true := by
              simp only [List.all_toArray, List.all_map, List.all_eq_true]
              intro _ _
              rfl
            have h0 : (List.map (fun _ => Value.type "tuple") (v :: vs)).toArray[0]? = some (Value.type "tuple") := by simp
            rw [h0]
            simp only [hall2, if_true]
            exact wpAny_pure (wpAny_pure q)
theorem keyLt_general (x y : Value) : keyLt' general' x y = oneLt' false x y := rfl
/-- values that read as tuples that are alike can be sorted -/
theorem sortsAt_tups {vs : List Value} {ds : List PyData} (e : EachIs (fun v d => ∃ as, Reads s.heap v d as) vs ds) (hal : AllAlike ds) (ht : ∀ d, d ∈ ds → ∃ xs, d = .tuple xs) (hu : ∀ d, d ∈ ds → A.units + d.depth < cLine) : SortsAt prog w A s (dataKind s.heap ds) vs := by
  by_cases hno : ∃ d, d ∈ ds ∧ hasItem d = false
  · obtain ⟨k, hk, hkd⟩ := kind_tups (A := A) e ht hno
    refine ⟨fun v hv => ?_, k, ?_, fun _ E Q q => hkd _ E Q q⟩
    · obtain ⟨d, hd, as, r⟩ := e.left v hv
      exact ⟨_, dataKind_some hal hd r⟩
    · intro E x y a b Q ha hb hq
      obtain ⟨d, as, hd, ra, rfl⟩ := dataKind_inv ha
      obtain ⟨d', as', hd', rb, rfl⟩ := dataKind_inv hb
      have hr : A.units + min d.depth d'.depth < cLine := Nat.lt_of_le_of_lt (Nat.add_le_add_left (Nat.min_le_left _ _) _) (hu d hd)
      obtain ⟨xs, rfl⟩ := ht d hd
      obtain ⟨ys, rfl⟩ := ht d' hd'
      rcases hk with rfl | rfl
      · rw [keyLt'_oneType]
        have hx : ∃ x', x = .ref x' := by cases ra; exact ⟨_, rfl⟩
        have hy : ∃ y', y = .ref y' := by cases rb; exact ⟨_, rfl⟩
        obtain ⟨x', rfl⟩ := hx
        obtain ⟨y', rfl⟩ := hy
        exact oneLt_tups ra rb (hal _ hd _ hd') hr hq
      · rw [keyLt_general]
        refine kat_one _ _ (lt_data ra rb (hal _ hd _ hd') (by simp) hr ?_)
        exact hq
  · refine SortsAt.data e hal (.inl fun d hd => ?_) hu
    obtain ⟨xs, rfl⟩ := ht d hd
    cases xs with
    | nil => exact absurd ⟨_, hd, rfl⟩ hno
    | cons x r => exact ⟨x, r, rfl⟩
end
end DL

/-! sorted(x), x a list, a tuple or a dict -/
namespace DL
open PySem PySem.Spec PyProof.Rows L2
section
open PySem.W PySem.Calls PySem.SeqAt
variable {prog : Program} {w : World} {A : Around} {s : Shared}
theorem collect_tup {l : Addr} {vs : List Value} {E : Value → Shared → Prop} {Q : List Value → Shared → Prop} (hl : s.heap.IsTuple l vs.toArray)
    (h : Q vs { s with heap := (s.heap.push (seqObj "list" #[] 0)).update s.heap.objs.size (Obj.mapSeq (· ++ vs.toArray)) }) (hsz : vs.length ≤ sizeLine := by size_fits) :
    wpAny (model prog w) A (collect (.ref l)) Q E s := by
  obtain ⟨o, ho, hc, n, hd⟩ := id hl
  unfold collect
  refine wpAny_bind (wpAny_runValue (codeAny_builtin entry_proto_collect' ?_))
  show wpAny _ _ (do again (.builtin "list.__iadd__" ⟨[← newList [], .ref l], []⟩)) _ _ s
  refine wpAny_bind (wpAny_newList (wpAny_pure ⟨Code.quiet_builtin _ (by decide +kernel), codeAny_builtin entry_list_iadd' ?_⟩))
  show wpAny _ _ (Builtin.List.listExtendWith (.ref s.heap.objs.size) (.ref l) (.ref s.heap.objs.size)) _ _ { s with heap := s.heap.push (seqObj "list" #[] 0) }
  unfold Builtin.List.listExtendWith
  have ho' : (s.heap.push (seqObj "list" #[] 0)).get? l = some o := Heap.get?_push_of_some _ ho
  refine wpAny_bind (wpAny_typeOf (T := "tuple") ⟨o, ho', hc⟩ ?_)
  have ht : (Value.type "tuple" == Value.type "tuple") = true := by rfl
  rw [if_pos (by rw [ht]; simp)]
  refine wpAny_bind (listItems_at ho' hd ?_)
  refine wpAny_bind (listItems_at (xs := #[]) (n := 0) (Heap.get?_push_size _ rfl) rfl ?_)
  rw [if_neg (by simp)]
  refine wpAny_bind (listUpdate_at (xs := #[]) (n := 0) (Heap.get?_push_size _ rfl) rfl ?_ (Nat.zero_le _) (by show (#[] ++ vs.toArray).size ≤ sizeLine + 1; simp only [Array.size_append, List.size_toArray, List.length_nil]; omega))
  refine wpAny_pure ?_
  show wpAny (model prog w) A (do
      let o ← load s.heap.objs.size
      match o.data with
      | .seq xs _ => pure xs.toList
      | _ => unsupported "internal:collect") Q E { s with heap := (s.heap.push (seqObj "list" #[] 0)).update s.heap.objs.size (Obj.mapSeq (· ++ vs.toArray)) }
  refine wpAny_bind (wpAny_load (get?_update_seq (Heap.get?_push_size _ rfl) _) ?_)
  show wpAny _ _ (pure ((#[] : Array Value) ++ vs.toArray).toList) Q E _
  rw [show ((#[] : Array Value) ++ vs.toArray).toList = vs by simp]
  exact wpAny_pure h
/-- sorted(x) of what can be collected -/
theorem sorted_gen {β : Type} {bs : List β} {enc : β → PyData} {R : Value → β → Prop} {E : Value → Shared → Prop} {x : Value} {Q : Value → Shared → Prop}
    (hc : ∀ (E' : Value → Shared → Prop) (Q' : List Value → Shared → Prop), (∀ vs h1 tk, (∀ b o, s.heap.get? b = some o → h1.get? b = some o) → EachIs R vs bs → Q' vs { s with heap := h1, toks := tk }) → wpAny (model prog w) A.in1 (collect x) Q' E' s)
    (hr : ∀ v b, R v b → ∃ as, Reads s.heap v (enc b) as) (hal : AllAlike (bs.map enc))
    (hk : Sortable (bs.map enc) ∨ ∀ d, d ∈ bs.map enc → ∃ xs, d = .tuple xs) (hL : bs.length ≤ sizeLine) (hu : ∀ b, b ∈ bs → A.units + 2 + (enc b).depth < cLine)
    (h : ∀ out d (h1 h2 : Heap) tk, (∀ b o, s.heap.get? b = some o → h1.get? b = some o) → (∀ b o, h1.get? b = some o → h2.get? b = some o) → h1.objs.size ≤ d → (∃ c, h2.get? d = some (seqObj "list" (List.toArray out) c)) → EachIs R out (bs.mergeSort (dataLe false enc)) → Q (.ref d) { s with heap := h2, toks := tk }) :
    wpAny (model prog w) A (call (.builtin "sorted") [x]) Q E s := by
  refine Calls.call_function_entry kind_sorted plain_sorted entry_sorted (args_sorted1 _) ?_
  unfold Builtin.«sorted»
  refine wpAny_bind (m := checkCount "sorted" 1 1 _) (wpAny_pure ?_)
  refine wpAny_bind (hc _ _ fun vs h1 tk keep e => ?_)
  have hlv : vs.length = bs.length := e.length
  refine wpAny_bind (wpAny_newList ?_ (by rw [hlv]; exact hL))
  have hoL : (h1.push (seqObj "list" vs.toArray 0)).get? h1.objs.size = some (seqObj "list" vs.toArray 0) := Heap.get?_push_size _ rfl
  have old : ∀ b o, s.heap.get? b = some o → b ≠ h1.objs.size ∧ (h1.push (seqObj "list" vs.toArray 0)).get? b = some o := fun b o q => by
    have q1 := keep b o q
    exact ⟨Nat.ne_of_lt (Heap.lt_size q1), Heap.get?_push_of_some _ q1⟩
  show wpAny _ _ _ _ _ { s with heap := h1.push (seqObj "list" vs.toArray 0), toks := tk }
  have er : EachIs (fun v b => ∃ as, Reads (sortingHeap (h1.push (seqObj "list" vs.toArray 0)) h1.objs.size vs) v (enc b) as) vs bs := e.mono fun v b q => by
    obtain ⟨as, r⟩ := hr v b q
    exact ⟨as, PyProof.Rows.Reads.keeps (fun b o z => sortingHeap_old (old b o z).1 (old b o z).2) r⟩
  have S : SortsAt prog w A.in1.in1 { s with heap := sortingHeap (h1.push (seqObj "list" vs.toArray 0)) h1.objs.size vs, toks := tk } (dataKind (sortingHeap (h1.push (seqObj "list" vs.toArray 0)) h1.objs.size vs) (bs.map enc)) vs := by
    have e2 := each_map (R := fun v d => ∃ as, Reads (sortingHeap (h1.push (seqObj "list" vs.toArray 0)) h1.objs.size vs) v d as) enc er
    have hu2 : ∀ d, d ∈ bs.map enc → A.in1.in1.units + d.depth < cLine := bound_map hu
    rcases hk with hk | hk
    · exact SortsAt.data (s := { s with heap := sortingHeap (h1.push (seqObj "list" vs.toArray 0)) h1.objs.size vs, toks := tk }) e2 hal hk hu2
    · exact sortsAt_tups (s := { s with heap := sortingHeap (h1.push (seqObj "list" vs.toArray 0)) h1.objs.size vs, toks := tk }) e2 hal hk hu2
  refine wpAny_bind (wpAny_holding (wpAny_call_entry slot_list_sort ⟨_, hoL, rfl⟩ entry_list_sort (list_sort_vals (s := { s with heap := h1.push (seqObj "list" vs.toArray 0), toks := tk }) hoL S (by rw [hlv]; exact hL) ⟨_, rfl, ?_⟩) (args_list_sort _)))
  refine wpAny_pure ⟨_, rfl, ?_⟩
  refine h _ h1.objs.size h1 _ tk keep (fun b o q => ?_) (Nat.le_refl _) (PyProof.Rows.sortedHeap_at (vs := vs) (out := (List.toArray _)) hoL) (sortVals_data false e er hal)
  have q2 : (h1.push (seqObj "list" vs.toArray 0)).get? b = some o := Heap.get?_push_of_some _ q
  rw [PyProof.Rows.sortedHeap_old (Nat.ne_of_lt (Heap.lt_size q)) (Heap.lt_size q2)]
  exact q2
end
/-! ### data -/
def D.le (x y : D) : Bool := !D.lt y x
def sortD (xs : List D) : List D := xs.mergeSort D.le
/-- these can be sorted -/
structure SortOk (xs : List D) : Prop where
  len : xs.length ≤ sizeLine
  pl : ∀ x ∈ xs, x.pl 50 = true
  al : ∀ x ∈ xs, ∀ y ∈ xs, PySem.W.alike x.py y.py = true
  kd : (∀ x ∈ xs, ∃ ys, x = .tup ys) ∨ ∀ x ∈ xs, x ≠ .non ∧ (∀ ys, x ≠ .tup ys) ∧ ∀ ys, x ≠ .con ys
theorem SortOk.kind {xs : List D} (h : SortOk xs) : PySem.W.Sortable (xs.map D.py) ∨ ∀ d, d ∈ xs.map D.py → ∃ ys, d = .tuple ys := by
  rcases h.kd with k | k
  · refine .inr fun d hd => ?_
    obtain ⟨x, hx, rfl⟩ := List.mem_map.mp hd
    obtain ⟨ys, rfl⟩ := k x hx
    exact ⟨D.pys ys, by simp [D.py]⟩
  · refine .inl (.inr fun d hd => ?_)
    obtain ⟨x, hx, rfl⟩ := List.mem_map.mp hd
    have hp := h.pl x hx
    obtain ⟨k1, k2, k3⟩ := k x hx
    cases x with
    | non => exact absurd rfl k1
    | tup ys => exact absurd rfl (k2 ys)
    | obj _ => simp [D.pl] at hp
    | dct _ _ => simp [D.pl] at hp
    | con ys => exact absurd rfl (k3 ys)
    | bl b => exact ⟨by simp [D.py], by simp [D.py]⟩
    | int b => exact ⟨by simp [D.py], by simp [D.py]⟩
    | str b => exact ⟨by simp [D.py], by simp [D.py]⟩
    | lst b => exact ⟨by simp [D.py], by simp [D.py]⟩
theorem SortOk.alike {xs : List D} (h : SortOk xs) : PySem.W.AllAlike (xs.map D.py) := by
  intro d hd d' hd'
  obtain ⟨x, hx, rfl⟩ := List.mem_map.mp hd
  obtain ⟨y, hy, rfl⟩ := List.mem_map.mp hd'
  exact h.al x hx y hy
/-- the value stands for the data -/
def IsD0 (K : PySem.W.Frag) (G : Hp) (v : Value) (d : D) : Prop := ∃ x : V, RelV x v ∧ Rep K G d x
theorem each_rep {K : PySem.W.Frag} {G : Hp} : ∀ {vs : List Value} {ds : List D}, PySem.W.EachIs (IsD0 K G) vs ds → ∃ xs : List V, Vals xs vs ∧ RepL K G ds xs
  | _, _, .nil => ⟨[], .nil, rfl⟩
  | _, _, .cons ⟨x, r, h⟩ t => by
    obtain ⟨xs, r2, h2⟩ := each_rep t
    exact ⟨x :: xs, .cons r r2, x, xs, rfl, h, h2⟩
theorem rep_each {K : PySem.W.Frag} {G : Hp} : ∀ {ds : List D} {xs : List V} {vs : List Value}, RepL K G ds xs → Vals xs vs → PySem.W.EachIs (IsD0 K G) vs ds
  | [], xs, vs, h, r => by
    have h : xs = [] := h
    subst h
    cases r
    exact .nil
  | d :: ds, xs, vs, ⟨x, xr, e, h1, h2⟩, r => by
    subst e
    cases r with
    | cons a b => exact .cons ⟨x, a, h1⟩ (rep_each h2 b)
section
variable {X : Cx} {W : WX}
/-- what can be collected from a -/
def CollOk (X : Cx) (pins : List (Addr × Obj)) (σ : L2.St) (H : Hp) (s : Shared) (a : Addr) (ds : List D) (G : Hp) : Prop :=
  Sub G H ∧ ∀ (E' : Value → Shared → Prop) (Q' : List Value → Shared → Prop), (∀ vs h1 tk, (∀ b o, s.heap.get? b = some o → h1.get? b = some o) → PySem.W.EachIs (IsD0 X.K G) vs ds → Q' vs { s with heap := h1, toks := tk }) → wpAny (model X.prog X.w) X.A.in1 (collect (.ref a)) Q' E' s
theorem isd_reads {pins : List (Addr × Obj)} {σ : L2.St} {H : Hp} {s : Shared} (I : Inv X pins σ H s) {G : Hp} (sg : Sub G H) {v : Value} {d : D} (hp : d.pl 50 = true) (h : IsD0 X.K G v d) : ∃ as, Reads s.heap v d.py as := by
  obtain ⟨x, r, h⟩ := h
  exact Dp.reads I d.py x v (Rep.dp d 50 x hp (h.mono sg)) r
theorem sort_rule {pins : List (Addr × Obj)} {σ : L2.St} {H : Hp} {s : Shared} {a : Addr} {ds : List D} {G : Hp} {Q : VK} (hu : X.A.units + 64 < cLine) (I : Inv X pins σ H s) (hc : CollOk X pins σ H s a ds G) (ok : SortOk ds)
    (q : ∀ p ys, H p = none → RepL X.K G (sortD ds) ys → Q (.ref p) (upd H p (.lst ys))) : wpAny (model X.prog X.w) X.A (call (.builtin "sorted") [.ref a]) (EP X pins σ Q) X.xe s := by
  obtain ⟨sg, hc⟩ := hc
  have key : ∀ v d, (IsD0 X.K G v d ∧ d ∈ ds) → ∃ as, Reads s.heap v d.py as := fun v d h => isd_reads I sg (ok.pl d h.2) h.1
  refine sorted_gen (R := fun v d => IsD0 X.K G v d ∧ d ∈ ds) (enc := D.py) (bs := ds) (fun E' Q' hq => hc E' Q' fun vs h1 tk k e => hq vs h1 tk k (PySem.W.each_mem e)) key ok.alike ok.kind ok.len (fun b hb => ?_) fun out d h1 h2 tk keep keep2 hd hat e => ?_
  · have := (py_can b 50 (ok.pl b hb)).2
    omega
  · obtain ⟨ys, r1, r2⟩ := each_rep (e.mono fun v d z => z.1)
    obtain ⟨c, hat⟩ := hat
    have hlen : ys.length ≤ sizeLine := by
      rw [r2.length, List.length_mergeSort]
      exact ok.len
    exact ⟨.ref d, upd H d (.lst ys), (I.kept (t' := tk) keep).laid (t' := tk) keep2 hd ⟨hlen, out, c, r1, hat⟩, rfl, q d ys ((I.kept (t' := tk) keep).hok.fresh hd) r2⟩
/-- lists, tuples -/
def SrcSeq (K : PySem.W.Frag) (H : Hp) (a : Addr) (ds : List D) (G : Hp) : Prop := Sub G H ∧ ∃ vs, (SqL K H a vs ∨ SqT K H a vs) ∧ RepL K G ds vs
theorem coll_seq {pins : List (Addr × Obj)} {σ : L2.St} {H : Hp} {s : Shared} {a : Addr} {ds : List D} {G : Hp} (I : Inv X pins σ H s) (h : SrcSeq X.K H a ds G) : CollOk X pins σ H s a ds G := by
  obtain ⟨sg, vs, h1, h2⟩ := h
  refine ⟨sg, fun E' Q' hq => ?_⟩
  rcases h1 with h1 | h1
  · obtain ⟨its, rv, p, hz⟩ := I.list h1
    refine collect_list p.isList (hq its _ _ (fun b o e => ?_) (rep_each h2 rv)) (by rw [← rv.length]; exact hz)
    rw [Heap.get?_update_ne _ _ _ _ (Nat.ne_of_lt (Heap.lt_size e))]
    exact Heap.get?_push_of_some _ e
  · obtain ⟨its, rv, p, hz⟩ := I.tuple h1
    refine collect_tup p (hq its _ _ (fun b o e => ?_) (rep_each h2 rv)) (by rw [← rv.length]; exact hz)
    rw [Heap.get?_update_ne _ _ _ _ (Nat.ne_of_lt (Heap.lt_size e))]
    exact Heap.get?_push_of_some _ e
/-- dicts of numbers and texts -/
theorem coll_dK {pins : List (Addr × Obj)} {σ : L2.St} {H : Hp} {s : Shared} {a : Addr} {kvs : List (Key × V)} {G : Hp} (hcalm : X.calm = true) (I : Inv X pins σ H s) (sg : Sub G H) (hd : Rd H a (.dK kvs)) : CollOk X pins σ H s a (kvs.map fun p => keyD p.1) G := by
  refine ⟨sg, fun E' Q' hq => ?_⟩
  obtain ⟨z, lo, vs, rel, dd⟩ := dk_rd I.hok hd
  obtain ⟨ep, hat⟩ := dd.dictAt
  have hl : vs.length = kvs.length := by
    have e := congrArg List.length rel.keys
    rw [List.length_map, List.length_map] at e
    exact e.symm
  refine PySem.W.kdu_collect (A := X.A.in1) (PySem.W.kdl_dict (knd := mixKind X.prog X.w) (kvs := vs) (ep := ep) lo) (I.ok.hd hcalm) hat (by rw [hl]; exact z) fun h' tk acc hk hacc => ?_
  refine hq _ _ _ hk ?_
  have hal : acc.toList.length = kvs.length := by rw [Array.length_toList, hacc.1, hl]
  have e1 : (kvs.map fun p => keyD p.1) = (kvs.map (·.1)).map keyD := by rw [List.map_map]; rfl
  rw [e1, rel.keys]
  refine rep_each (xs := (vs.map (·.1)).map kV) ?_ (vals_of_at (by rw [List.length_map, List.length_map, hal, hl]) fun j x w h1 h2 => ?_)
  · generalize vs.map (·.1) = ks
    induction ks with
    | nil => rfl
    | cons k ks ih => exact ⟨kV k, ks.map kV, rfl, by cases k <;> rfl, ih⟩
  · obtain ⟨k, y, hky, hi⟩ := hacc.2 j w (by rw [← Array.getElem?_toList]; exact h2)
    rw [List.getElem?_map, List.getElem?_map, hky] at h1
    cases h1
    exact keyIs_rel hi
/-- dicts of tuples -/
theorem coll_dT {pins : List (Addr × Obj)} {σ : L2.St} {H : Hp} {s : Shared} {a : Addr} {kvs : List (List Key × V)} (hcalm : X.calm = true) (I : Inv X pins σ H s) (hd : Rd H a (.dT kvs)) :
    ∃ bs : List Addr, (∀ b ∈ bs, ∃ vs, H b = some (.tup vs)) ∧ ∀ G, Sub G H → (∀ b ∈ bs, G b = H b) → CollOk X pins σ H s a (kvs.map fun p => keyT p.1) G := by
  obtain ⟨z, hs, ks, pr, o, es, ep, ho, hx, hdt, he, hn⟩ := (show ObjOk X.prog X.w H s.heap a (.dT kvs) from hd.ok I.hok)
  have l1 : es.size = ks.length := size_of_entries he
  have l2 : kvs.length = ks.length := Paired.length pr
  have ik := isKeys_of pr
  refine ⟨ks.map fun x => x.2.1, ?_, fun G sg hG => ⟨sg, fun E' Q' hq => ?_⟩⟩
  · intro b hb
    unfold IsKeys at ik
    have : ∀ {l : List (List Key × V)} {m : List Addr}, Paired (fun p b => H b = some (.tup (p.1.map kV))) l m → ∀ b ∈ m, ∃ vs, H b = some (.tup vs) := by
      intro l m q
      induction q with
      | nil => intro b hb; cases hb
      | cons h t ih =>
        intro b hb
        rcases List.mem_cons.mp hb with e | hb
        · subst e; exact ⟨_, h⟩
        · exact ih b hb
    exact this ik b hb
  · refine PySem.W.kdu_collect (A := X.A.in1) (kdl_raw hs hx hdt) (I.ok.hd hcalm) ho (by omega) fun h' tk acc' kp it => ?_
    refine hq _ _ _ kp ?_
    have ea : acc'.toList = ks.map fun x => Value.ref x.2.1 := by
      have hl : acc'.toList.length = ks.length := by rw [Array.length_toList, it.1]; exact l1
      apply List.ext_getElem?
      intro j
      rw [List.getElem?_map]
      cases hj : acc'.toList[j]? with
      | none =>
        have h1 := List.getElem?_eq_none_iff.mp hj
        rw [List.getElem?_eq_none (by omega)]
        all_goals rfl
      | some v =>
        obtain ⟨en, hen, hv⟩ := it.2 j v (by rw [← Array.getElem?_toList]; exact hj)
        have qe := entry_at he j
        rw [hen] at qe
        cases hb : ks[j]? with
        | none =>
          rw [hb] at qe
          exact nomatch (show some en = none from qe)
        | some b =>
          rw [hb] at qe
          have e2 : en = entryOfKey (tupleKind (mixKind X.prog X.w)) b := Option.some.inj qe
          rw [hv, e2]
          rfl
    rw [ea]
    have gen : ∀ {l : List (List Key × V)} {m : List (List Key × Addr × Value)}, Paired (fun p b => H b = some (.tup (p.1.map kV))) l (m.map fun x => x.2.1) → (∀ x ∈ m, G x.2.1 = H x.2.1) → RepL X.K G (l.map fun p => keyT p.1) (m.map fun x => V.ref x.2.1) := by
      intro l
      induction l with
      | nil => intro m q _; cases m with
        | nil => rfl
        | cons x m => cases q
      | cons p l ih =>
        intro m q hm
        cases m with
        | nil => cases q
        | cons x m =>
          cases q with
          | cons h t =>
            refine ⟨V.ref x.2.1, m.map fun x => V.ref x.2.1, rfl, ⟨x.2.1, p.1.map kV, rfl, ?_, ?_⟩, ih t fun y hy => hm y (List.mem_cons_of_mem _ hy)⟩
            · rw [hm x List.mem_cons_self]; exact h
            · generalize p.1 = ks'
              induction ks' with
              | nil => rfl
              | cons k ks' ih => exact ⟨kV k, ks'.map kV, rfl, by cases k <;> rfl, ih⟩
    refine rep_each (gen ik fun x hx => hG _ (List.mem_map.mpr ⟨x, hx, rfl⟩)) ?_
    have e3 : (ks.map fun x => V.ref x.2.1) = (ks.map fun x => x.2.1).map V.ref := by rw [List.map_map]; rfl
    have e4 : (ks.map fun x => Value.ref x.2.1) = (ks.map fun x => x.2.1).map Value.ref := by rw [List.map_map]; rfl
    rw [e3, e4]
    exact vals_refs _
/-- what a walk over the data yields -/
def D.items : D → Option (List D)
  | .lst xs => some xs
  | .tup xs => some xs
  | .dct _ kvs => some (kvs.map (·.1))
  | _ => none
open Classical in
noncomputable def dSorted : D → Res D := fun d => match d.items with
  | some xs => if SortOk xs then .ok (.lst (sortD xs)) else .bad
  | none => .bad
def rSorted0 (X : Cx) : List V → Hp → VK → Prop := fun xs H Q => ∃ (a : Addr) (ds : List D), xs = [V.ref a] ∧ SortOk ds ∧
  ((∃ G, SrcSeq X.K H a ds G ∧ ∀ p ys, H p = none → RepL X.K G (sortD ds) ys → Q (.ref p) (upd H p (.lst ys))) ∨
   (∃ kvs, Rd H a (.dK kvs) ∧ ds = kvs.map (fun p => keyD p.1) ∧ ∃ G, Sub G H ∧ ∀ p ys, H p = none → RepL X.K G (sortD ds) ys → Q (.ref p) (upd H p (.lst ys))) ∨
   (∃ kvs, Rd H a (.dT kvs) ∧ ds = kvs.map (fun p => keyT p.1) ∧ ∀ (bs : List Addr) G, (∀ b ∈ bs, ∃ vs, H b = some (.tup vs)) → Sub G H → (∀ b o, G b = some o → b ∈ bs) → ∀ p ys, H p = none → RepL X.K G (sortD ds) ys → Q (.ref p) (upd H p (.lst ys))))
open Classical in
theorem cr_sorted0 (hcalm : X.calm = true) (hu : X.A.units + 64 < cLine) : CallR X (.builtin "sorted") (rSorted0 X) := by
  intro pins s σ H xs us Q I r h
  obtain ⟨a, ds, rfl, ok, h⟩ := h
  obtain ⟨u, rfl, ru⟩ := vals1 r
  obtain rfl : u = Value.ref a := ru
  rcases h with ⟨G, h1, q⟩ | ⟨kvs, h1, rfl, G, sg, q⟩ | ⟨kvs, h1, rfl, q⟩
  · exact sort_rule hu I (coll_seq I h1) ok q
  · exact sort_rule hu I (coll_dK hcalm I sg h1) ok q
  · obtain ⟨bs, b1, b2⟩ := coll_dT hcalm I h1
    have hG : Sub (fun b => if b ∈ bs then H b else none) H := fun b o e => by
      dsimp only at e
      split at e
      · exact e
      · cases e
    refine sort_rule hu I (b2 (fun b => if b ∈ bs then H b else none) hG fun b hb => if_pos hb) ok (q bs _ b1 hG fun b o e => ?_)
    split at e
    · assumption
    · cases e
open Classical in
theorem c1_sorted (hcalm : X.calm = true) (hu : X.A.units + 64 < cLine) : Call1F X W (.builtin "sorted") dSorted := by
  refine ⟨_, cr_sorted0 hcalm hu, fun σ H G x dx Q sg rx p => ?_⟩
  unfold dSorted at p
  cases hi : dx.items with
  | none => rw [hi] at p; exact p.elim
  | some ds =>
    rw [hi] at p
    dsimp only at p
    by_cases ok : SortOk ds
    · rw [if_pos ok] at p
      have fin : ∀ G2, Ext H G H G2 → ∀ q ys, H q = none → RepL X.K G2 (sortD ds) ys → Q (.ref q) (upd H q (.lst ys)) := fun G2 x2 q ys hq r =>
        p (upd H q (.lst ys)) G2 ⟨x2.hh.trans (Sub.upd hq), x2.gg, x2.gh.trans (Sub.upd hq), x2.new⟩ q hq (x2.gh.free hq) ⟨ys, upd_same, r⟩
      cases dx with
      | lst xs =>
        cases hi
        obtain ⟨a, vs, rfl, s, r⟩ := rx
        exact ⟨a, _, rfl, ok, .inl ⟨G, ⟨sg, vs, .inl s, r⟩, fin G (Ext.refl sg)⟩⟩
      | tup xs =>
        cases hi
        obtain ⟨a, vs, rfl, s, r⟩ := (show Rep X.K G (.tup _) x from rx)
        exact ⟨a, _, rfl, ok, .inl ⟨G, ⟨sg, vs, .inr (sg.pt s), r⟩, fin G (Ext.refl sg)⟩⟩
      | dct t kvs =>
        cases hi
        obtain ⟨a, rfl, h⟩ := rx
        rcases h with ⟨t0, ps, s, hkeys, rv⟩ | ⟨t0, ps, s, hkeys, rv⟩
        · exact ⟨a, _, rfl, ok, .inr (.inl ⟨ps, s, hkeys, G, sg, fin G (Ext.refl sg)⟩)⟩
        · refine ⟨a, _, rfl, ok, .inr (.inr ⟨ps, s, hkeys, fun bs G1 hb sg1 hG1 q ys hq r => ?_⟩)⟩
          have s2 : Sub G (fun b => if b ∈ bs then H b else G b) := fun b o e => by
            dsimp only
            by_cases hbb : b ∈ bs
            · rw [if_pos hbb]; exact sg _ _ e
            · rw [if_neg hbb]; exact e
          have s3 : Sub G1 (fun b => if b ∈ bs then H b else G b) := fun b o e => by
            dsimp only
            rw [if_pos (hG1 b o e)]; exact sg1 _ _ e
          have s4 : Sub (fun b => if b ∈ bs then H b else G b) H := fun b o e => by
            dsimp only at e
            by_cases hbb : b ∈ bs
            · rw [if_pos hbb] at e; exact e
            · rw [if_neg hbb] at e; exact sg _ _ e
          refine fin _ ⟨Sub.refl H, s2, s4, fun b e => ?_⟩ q ys hq (r.mono s3)
          by_cases hbb : b ∈ bs
          · exact .inr (.inr (hb b hbb))
          · rw [if_neg hbb] at e; exact .inl e
      | _ => cases hi
    · rw [if_neg ok] at p; exact p.elim
end
end DL

/-! rules that look at the data: index, in, is, slices with a step, methods -/
namespace DL
open PySem PySem.Spec PyProof.Rows L2
open PySem.Builtin.Int (intBits)
section
variable {X : Cx} {W : WX} {A : Nat → Prop} {a b c ex : Expr} {pos p p1 p2 apos cpos : Pos}
/-- either of two readings, as the data say -/
theorem de_pick {f f1 f2 : DL.Env → Res D} (h1 : DE X W A ex f1) (h2 : DE X W A ex f2) (hf : ∀ e, f e = f1 e ∨ f e = f2 e ∨ f e = .bad) : DE X W A ex f :=
  ⟨fun pins s σ H Q I ⟨e, G, E, q⟩ => by
    rcases hf e with z | z | z
    · rw [z] at q; exact h1.run pins s σ H Q I ⟨e, G, E, q⟩
    · rw [z] at q; exact h2.run pins s σ H Q I ⟨e, G, E, q⟩
    · rw [z] at q; exact q.elim⟩
theorem eOp_pick {g g1 g2 : D → D → Res D} {fa fb : DL.Env → Res D} (h : ∀ x y, g x y = g1 x y ∨ g x y = g2 x y ∨ g x y = .bad) (e : DL.Env) : eOp g fa fb e = eOp g1 fa fb e ∨ eOp g fa fb e = eOp g2 fa fb e ∨ eOp g fa fb e = .bad := by
  unfold eOp
  cases ha : fa e with
  | ok x =>
    cases hb : fb e with
    | ok y => exact h x y
    | exc _ _ => exact .inl rfl
    | bad => exact .inl rfl
  | exc _ _ => exact .inl rfl
  | bad => exact .inl rfl
/-! ### x[k] of any kind -/
noncomputable def dIxA (x y : D) : Res D := match x with
  | .dct t kvs => dAt (.dct t kvs) y
  | x => dIx x y
theorem de_ixA {fa fb : DL.Env → Res D} (hu : X.A.units + 1 < cLine) (ha : DR X W A a fa) (hb : DE X W A b fb) (hs : NoSl b) (hs2 : PlainIx b) : DE X W A (.Subscript a b pos) (eOp dIxA fa fb) :=
  de_pick (de_dix hu ha hb hs) (de_ix ha (dr hb) hs2) (eOp_pick fun x y => by cases x <;> first | exact .inl rfl | exact .inr (.inl rfl))
/-! ### is -/
/-! ### in, of lists, tuples and texts -/
theorem shaped_pyL {xs : List D} (h : D.pls xs 50 = true) : SeqAt.shaped (.list (D.pys xs)) = true := by
  have := shaped_py (d := .lst xs) (n := 51) (by simpa [D.pl] using h) (by decide)
  simpa [D.py] using this
theorem _root_.L2.Room.hu65 {k : Nat} {A : Around} (h : Room k A) : A.units + 65 < cLine := by have := h.un; omega
end
end DL

/-! methods, lists made, slices with a step -/
namespace DL
open PySem PySem.Spec PyProof.Rows L2
open PySem.Builtin.Int (intBits)
section
variable {X : Cx} {W : WX} {A : Nat → Prop} {a b c ex o e : Expr} {es : List Expr} {pos p p1 p2 p3 apos cpos : Pos} {T id : String} {name : Str}
/-! ### methods of a value that is read -/
/-! ### l.remove(k), l.insert(i, k) -/
mutual
theorem py_plain : ∀ (d : D) (n : Nat), d.pl n = true → d.py.plain = true
  | .non, n, _ => by simp [D.py, PyData.plain]
  | .bl _, n, _ => by simp [D.py, PyData.plain]
  | .int _, n, _ => by simp [D.py, PyData.plain]
  | .str _, n, _ => by simp [D.py, PyData.plain]
  | .obj _, n, h => by simp [D.pl] at h
  | .dct _ _, n, h => by simp [D.pl] at h
  | .con xs, 0, h => by simp [D.pl] at h
  | .con xs, n + 1, h => by
    simp only [D.py, PyData.plain]
    exact pys_plain xs n (by simpa [D.pl] using h)
  | .tup xs, 0, h => by simp [D.pl] at h
  | .lst xs, 0, h => by simp [D.pl] at h
  | .tup xs, n + 1, h => by
    simp only [D.py, PyData.plain]
    exact pys_plain xs n (by simpa [D.pl] using h)
  | .lst xs, n + 1, h => by
    simp only [D.py, PyData.plain]
    exact pys_plain xs n (by simpa [D.pl] using h)
theorem pys_plain : ∀ (ds : List D) (n : Nat), D.pls ds n = true → PyData.plainAll (D.pys ds) = true
  | [], n, _ => by simp [D.pys, PyData.plainAll]
  | d :: r, n, h => by
    have h' : d.pl n = true ∧ D.pls r n = true := by simpa [D.pls] using h
    simp only [D.pys, PyData.plainAll, py_plain d n h'.1, pys_plain r n h'.2, Bool.and_self]
end
/-! ### list(range(..)) -/
/-! ### [x] * n -/
end
end DL

/-! zip and enumerate over lists and tuples, mixed -/
namespace DL
open PySem PySem.Spec PyProof.Rows L2
open PySem.Builtin.Int (intBits)
/-! ### a side: a list (false) or a tuple (true) -/
/-! ### zip -/
theorem nn {m n : Nat} (h : @Ne Nat m n) : @Ne Addr m n := h
section
variable {X : Cx} {W : WX} {A : Nat → Prop} {a b : Expr} {p pos tpos : Pos} {elts : List Expr} {kk : Nat}
end
end DL

/-! enumerate over a list or a tuple; slices with a step -/
namespace DL
open PySem PySem.Spec PyProof.Rows L2
open PySem.Builtin.Int (intBits)
section
variable {X : Cx} {W : WX} {A : Nat → Prop} {a b c ex : Expr} {lo hi : Option Expr} {p p2 p3 pos tpos : Pos} {elts : List Expr} {kk : Nat}
/-! ### xs[lo:hi:step] -/
end
end DL

/-! list(reversed(l)) -/
namespace DL
open PySem PySem.Spec PyProof.Rows L2 RT
open PySem.Builtin.Int (intBits)
section
variable {prog : Program} {w : World} {A : Around} {E : Value → Shared → Prop} {s : Shared}
end
section
variable {X : Cx}
end
end DL

/-! {k: v, ..} with keys that are written out -/
namespace DL
open PySem PySem.Spec PyProof.Rows L2
open PySem.Builtin.Int (intBits)
section
variable {K : PySem.W.Frag} {mg : Str → Option Value} {W : WX} {A : Nat → Prop}
end
section
variable {X : Cx} {W : WX} {A : Nat → Prop} {pos : Pos}
end
end DL

/-! dict(d); dicts with number and text keys compared -/
namespace DL
open PySem PySem.Spec PyProof.Rows L2
open PySem.Builtin.Int (intBits)
section
variable {X : Cx} {W : WX}
/-! ### == -/
end
end DL

/-! max, min of a list of numbers -/
namespace DL
open PySem PySem.Spec PyProof.Rows L2
open PySem.Builtin.Int (intBits)
section
variable {X : Cx} {W : WX}
end
end DL

/-! slices and sums of lists are new lists -/
namespace DL
open PySem PySem.Spec PyProof.Rows L2
open PySem.Builtin.Int (intBits)
section
variable {X : Cx} {W : WX} {A : Nat → Prop} {a b : Expr} {lo hi : Option Expr} {pos p2 : Pos}
end
end DL

/-! sets of numbers and texts made of a list: how many, and sorted -/
namespace DL
open PySem PySem.Spec PyProof.Rows L2
open PySem.Builtin.Int (intBits)
section
variable {α β : Type} {F : α → β → Prop}
theorem paired_perm {r r' : List β} (p : r'.Perm r) : ∀ {l : List α}, Paired F l r → ∃ l', l'.Perm l ∧ Paired F l' r' := by
  induction p with
  | nil => intro l q; cases q; exact ⟨[], .nil, .nil⟩
  | cons x p ih =>
    intro l q
    cases q with
    | cons h t => obtain ⟨l', a, b⟩ := ih t; exact ⟨_ :: l', a.cons _, .cons h b⟩
  | swap x y r =>
    intro l q
    cases q with
    | cons h t => cases t with
      | cons h2 t2 => exact ⟨_, List.Perm.swap _ _ _, .cons h2 (.cons h t2)⟩
  | trans p1 p2 ih1 ih2 =>
    intro l q
    obtain ⟨l1, a, b⟩ := ih2 q
    obtain ⟨l2, c, d⟩ := ih1 b
    exact ⟨l2, c.trans a, d⟩
end
def GoodK (P : Program) (w : World) (k : Key) (e : Int × Value) : Prop := (mixKind P w).is k e.2 = true ∧ e.1 = (mixKind P w).hash k ∧ e.2.scannable = true
/-- a set of numbers and texts, that can be walked -/
def SetG (P : Program) (w : World) (h : Heap) (a : Addr) (ks : List Key) : Prop :=
  ∃ o es ep t ls, h.get? a = some o ∧ o.ExactSet ∧ o.data = .set es ep t ∧ Paired (GoodK P w) ls es.toList ∧ ls.Perm ks ∧ ks.Nodup ∧ es.size < scanBound ∧ t.fits es.size = true ∧ L2.Ris t.place.toList ∧ (w.params.followText "set-order" = true ∨ t.led = true)
section
variable {P : Program} {w : World} {A : Around} {E : Value → Shared → Prop} {s : Shared} {a : Addr} {ks : List Key}
theorem SetG.at {h h' : Heap} (R : SetG P w h a ks) (k : ∀ o, h.get? a = some o → h'.get? a = some o) : SetG P w h' a ks := by
  obtain ⟨o, es, ep, t, ls, ho, r⟩ := R
  exact ⟨o, es, ep, t, ls, k o ho, r⟩
set_option maxRecDepth 100000 in
set_option maxHeartbeats 3200000 in
end
end DL

/-! len(set(l)), sorted(set(l)) of numbers and texts -/
namespace DL
open PySem PySem.Spec PyProof.Rows L2
section
open PySem.W PySem.Calls PySem.SeqAt
variable {prog : Program} {w : World} {A : Around} {s : Shared}
/-- sorted(x) of what can be collected -/
theorem sorted_genD {β : Type} {C : List β → Prop} {enc : β → PyData} {R : Value → β → Prop} {E : Value → Shared → Prop} {x : Value} {Q : Value → Shared → Prop}
    (hc : ∀ (E' : Value → Shared → Prop) (Q' : List Value → Shared → Prop), (∀ vs h1 tk dr bs, C bs → (∀ b o, s.heap.get? b = some o → h1.get? b = some o) → EachIs R vs bs → Q' vs { s with heap := h1, toks := tk, drawn := dr }) → wpAny (model prog w) A.in1 (collect x) Q' E' s)
    (hr : ∀ v b, R v b → ∃ as, Reads s.heap v (enc b) as) (hal : ∀ bs, C bs → AllAlike (bs.map enc))
    (hk : ∀ bs, C bs → Sortable (bs.map enc) ∨ ∀ d, d ∈ bs.map enc → ∃ xs, d = .tuple xs) (hL : ∀ bs, C bs → bs.length ≤ sizeLine) (hu : ∀ bs, C bs → ∀ b, b ∈ bs → A.units + 2 + (enc b).depth < cLine)
    (h : ∀ out d (h1 h2 : Heap) tk dr bs, C bs → (∀ b o, s.heap.get? b = some o → h1.get? b = some o) → (∀ b o, h1.get? b = some o → h2.get? b = some o) → h1.objs.size ≤ d → (∃ c, h2.get? d = some (seqObj "list" (List.toArray out) c)) → EachIs R out (bs.mergeSort (dataLe false enc)) → Q (.ref d) { s with heap := h2, toks := tk, drawn := dr }) :
    wpAny (model prog w) A (call (.builtin "sorted") [x]) Q E s := by
  refine Calls.call_function_entry kind_sorted plain_sorted entry_sorted (args_sorted1 _) ?_
  unfold Builtin.«sorted»
  refine wpAny_bind (m := checkCount "sorted" 1 1 _) (wpAny_pure ?_)
  refine wpAny_bind (hc _ _ fun vs h1 tk dr bs cb keep e => ?_)
  have hlv : vs.length = bs.length := e.length
  refine wpAny_bind (wpAny_newList ?_ (by rw [hlv]; exact hL bs cb))
  have hoL : (h1.push (seqObj "list" vs.toArray 0)).get? h1.objs.size = some (seqObj "list" vs.toArray 0) := Heap.get?_push_size _ rfl
  have old : ∀ b o, s.heap.get? b = some o → b ≠ h1.objs.size ∧ (h1.push (seqObj "list" vs.toArray 0)).get? b = some o := fun b o q => by
    have q1 := keep b o q
    exact ⟨Nat.ne_of_lt (Heap.lt_size q1), Heap.get?_push_of_some _ q1⟩
  show wpAny _ _ _ _ _ { s with heap := h1.push (seqObj "list" vs.toArray 0), toks := tk, drawn := dr }
  have er : EachIs (fun v b => ∃ as, Reads (sortingHeap (h1.push (seqObj "list" vs.toArray 0)) h1.objs.size vs) v (enc b) as) vs bs := e.mono fun v b q => by
    obtain ⟨as, r⟩ := hr v b q
    exact ⟨as, PyProof.Rows.Reads.keeps (fun b o z => sortingHeap_old (old b o z).1 (old b o z).2) r⟩
  have S : SortsAt prog w A.in1.in1 { s with heap := sortingHeap (h1.push (seqObj "list" vs.toArray 0)) h1.objs.size vs, toks := tk, drawn := dr } (dataKind (sortingHeap (h1.push (seqObj "list" vs.toArray 0)) h1.objs.size vs) (bs.map enc)) vs := by
    have e2 := each_map (R := fun v d => ∃ as, Reads (sortingHeap (h1.push (seqObj "list" vs.toArray 0)) h1.objs.size vs) v d as) enc er
    have hu2 : ∀ d, d ∈ bs.map enc → A.in1.in1.units + d.depth < cLine := bound_map (hu bs cb)
    rcases hk bs cb with hk | hk
    · exact SortsAt.data (s := { s with heap := sortingHeap (h1.push (seqObj "list" vs.toArray 0)) h1.objs.size vs, toks := tk, drawn := dr }) e2 (hal bs cb) hk hu2
    · exact sortsAt_tups (s := { s with heap := sortingHeap (h1.push (seqObj "list" vs.toArray 0)) h1.objs.size vs, toks := tk, drawn := dr }) e2 (hal bs cb) hk hu2
  refine wpAny_bind (wpAny_holding (wpAny_call_entry slot_list_sort ⟨_, hoL, rfl⟩ entry_list_sort (list_sort_vals (s := { s with heap := h1.push (seqObj "list" vs.toArray 0), toks := tk, drawn := dr }) hoL S (by rw [hlv]; exact hL bs cb) ⟨_, rfl, ?_⟩) (args_list_sort _)))
  refine wpAny_pure ⟨_, rfl, ?_⟩
  refine h _ h1.objs.size h1 _ tk dr bs cb keep (fun b o q => ?_) (Nat.le_refl _) (PyProof.Rows.sortedHeap_at (vs := vs) (out := (List.toArray _)) hoL) (sortVals_data false e er (hal bs cb))
  have q2 : (h1.push (seqObj "list" vs.toArray 0)).get? b = some o := Heap.get?_push_of_some _ q
  rw [PyProof.Rows.sortedHeap_old (Nat.ne_of_lt (Heap.lt_size q)) (Heap.lt_size q2)]
  exact q2
end
/-! ### keys in order -/
/-! ### the rules -/
def D.key : D → Option Key
  | .int i => some (.inl i)
  | .str x => some (.inr x)
  | _ => none
def D.keys : List D → Option (List Key)
  | [] => some []
  | d :: r => match d.key, D.keys r with
    | some k, some ks => some (k :: ks)
    | _, _ => none
section
variable {X : Cx} {W : WX} {A : Nat → Prop} {a : Expr} {p p2 q pos : Pos}
end
end DL

/-! len(set(l)), sorted(set(l)), max(l, default=c) over data -/
namespace DL
open PySem PySem.Spec PyProof.Rows L2
section
variable {X : Cx} {W : WX} {A : Nat → Prop} {a : Expr} {p p2 q pos : Pos}
/-! max(l, default=c) -/
end
end DL

/-! a <= b <= c <= d; l.count(n) -/
namespace DL
open PySem PySem.Spec PyProof.Rows L2
section
variable {X : Cx} {W : WX} {A : Nat → Prop} {a b c d : Expr} {pos : Pos}
/-! l.count(n) of whole numbers -/
end
end DL

/-! a tuple times a number, the factor one, too -/
namespace L2
open PySem PySem.Spec PyProof.Rows
variable {X : Cx}
end L2
namespace DL
open PySem PySem.Spec PyProof.Rows L2
section
variable {X : Cx} {W : WX}
end
end DL

/-! a def that is handed a list of the caller's own as its first value and gives back one of its own -/
namespace DL
open PySem PySem.Spec PyProof.Rows L2
/-- such a def's promise -/
def spO (K : PySem.W.Frag) (mg : Str → Option Value) (n : Nat) (F : List D → Res D) : Sp := fun vs H Q E => vs.length = n ∧ ∃ a vr d dr G Hm, vs = .ref a :: vr ∧ Sub G Hm ∧ Sub Hm H ∧ Hm a = none ∧ OwnC K H G d a ∧ RepL K G dr vr ∧
  PostG K mg E Hm G (F (d :: dr)) fun r H' G' => ∀ b, Hm b = none → G' b = none → OwnC K H' G' r b → Q (.ref b) H'
structure CallOkO (P : Program) (w : World) (K : PySem.W.Frag) (mg : Str → Option Value) (base : Heap) (k : Nat) (x : Str) (ps : List Str) (F : List D → Res D) : Prop where
  ok : ∃ f fd, mg x = some (.ref f) ∧ PySem.W.keepIn K (.ref f) = true ∧ Binds K fd ps [] ∧ FnOk P w K mg base (L2.CX P w) k f fd ps (spO K mg ps.length F)
theorem CallOkO.up {P : Program} {w : World} {K : PySem.W.Frag} {mg : Str → Option Value} {base : Heap} {j k : Nat} {x : Str} {ps : List Str} {F : List D → Res D} (h : CallOkO P w K mg base j x ps F) (hjk : j ≤ k) : CallOkO P w K mg base k x ps F :=
  let ⟨f, fd, h1, h2, h3, h4⟩ := h.ok
  ⟨f, fd, h1, h2, h3, h4.mono hjk⟩
section
variable {X : Cx} {W : WX} {H0 : Bas} {G0 : Hp} {al : List Nat} {pos p : Pos}
end
end DL

/-! d.values() as a value; max(d.values(), default=c) -/
namespace L2
open PySem PySem.Spec PyProof.Rows
section
variable {X : Cx} {o : Expr} {apos mpos : Pos} {td : TE}
end
end L2
namespace DL
open PySem PySem.Spec PyProof.Rows L2
section
variable {X : Cx} {W : WX} {A : Nat → Prop} {o : Expr} {apos mpos p pos : Pos}
theorem Rd.mono' {H H' : Hp} (h : Sub H H') {a : Addr} {u : HO} (r : Rd H a u) : Rd H' a u := h.rd r
end
end DL

/-! comprehensions within one another -/
namespace DL
open PySem PySem.Spec PyProof.Rows L2
end DL

/-! dicts that are walked: keys, values, items -/
namespace DL
open PySem PySem.Spec PyProof.Rows L2
section
variable {X : Cx} {pins : List (Addr × Obj)} {σ : L2.St} {H : Hp} {s : Shared} {d : Addr} {o : Obj}
theorem frzT2 {kvs : List (List Key × V)} (I : Inv X pins σ H s) (h : H d = some (.frz o (.dT kvs))) :
    (d == sysModules) = false ∧ s.heap.get? d = some o ∧ o.ExactDict ∧ ∃ (es : Array DictEntry) (ep : Nat), o.data = .dict es ep ∧ es.size = kvs.length ∧
      ∀ (i : Nat) (hi : i < es.size) (k : List Key) (v : V), kvs[i]? = some (k, v) → ∃ q : Addr, es[i].key = .ref q ∧ H q = some (.tup (k.map kV)) ∧ RelV v es[i].val := by
  obtain ⟨hd, z, hs, xs, pr, o', es, ep, ho, hx, hdt, he, _⟩ := I.hok d _ h
  rw [hd] at ho
  cases ho
  refine ⟨hs, hd, hx, es, ep, hdt, ?_, fun i hi k v e => ?_⟩
  · have l1 : es.size = xs.length := size_of_entries he
    have l2 : kvs.length = xs.length := Paired.length pr
    omega
  · obtain ⟨b, hb, e1, e2, e3⟩ := paired_get pr e
    have q := entry_at he i
    rw [hb, Array.getElem?_eq_getElem hi] at q
    have q' := Option.some.inj q
    exact ⟨b.2.1, by rw [q']; rfl, e2, by rw [q']; exact e3⟩
end
def ItdT (d : Addr) (o : Obj) (kvs : List (List Key × V)) : It :=
  ⟨fun i H => H d = some (.frz o (.dT kvs)) ∧ i < kvs.length, fun i H x H' => H' = H ∧ ∃ k, kvs[i]? = some (k, x), fun i H => H d = some (.frz o (.dT kvs)) ∧ kvs.length ≤ i⟩
section
variable {P : Program} {w : World} {K : PySem.W.Frag} {tg : Expr} {d : Addr} {o : Obj} {es : Array DictEntry} {ep : Nat}
theorem turn_valsT {kvs : List (List Key × V)} (it : Addr) (hod : o.data = .dict es ep) : Turn P w K tg (ItdT d o kvs) [it] it (fun i h => h.IsValIter it d i kvs.length ep) where
  mem := by simp
  obj := fun i h st b hb => by
    have e : b = it := by simpa using hb
    subst e
    obtain ⟨oi, e, c, dd⟩ := st
    exact ⟨oi, e, fun v z => by rw [dd] at z; cases z⟩
  keep := fun i h h' st k => st.at fun oi e => k it (by simp) oi e
  item := by
    intro X hP hw hK hc i pins s σ H E I hf st hg
    subst hP hw hK
    obtain ⟨hd, hi⟩ := hg
    obtain ⟨f0, f1, f2, f3, f4, f5⟩ := hf it (by simp)
    obtain ⟨hs, hgd, hx, es', ep', hdt, hsz, ent⟩ := frzT2 I hd
    obtain ⟨rfl, rfl⟩ := dict_ep hod hdt
    obtain ⟨⟨k, v⟩, hkv⟩ : ∃ p, kvs[i]? = some p := ⟨kvs[i], List.getElem?_eq_getElem hi⟩
    have hi' : i < es'.size := by rw [hsz]; exact hi
    obtain ⟨q, _, _, ru⟩ := ent i hi' k v hkv
    rw [← hsz] at st
    refine wpAny_pyNext_values_item_raw st ⟨o, hgd, hx, hdt⟩ hi' fun h' st' sb => ?_
    have I1 : Inv X pins σ H { s with heap := h' } := I.turned (t' := s.toks) (fun b ob hb e => (sb.2 b hb).trans e) f0 f1 f3 f4 f5
    obtain ⟨oi, e, c, dd⟩ := id st'
    refine ⟨es'[i].val, rfl, go_of (s := { s with heap := h' }) e c dd (by decide) ⟨v, H, I1, ru, ⟨rfl, k, hkv⟩, ?_, fun b hb => (hf b hb).1⟩⟩
    show h'.IsValIter it d (i + 1) kvs.length _
    rw [← hsz]
    exact st'
  done := by
    intro X hP hw hK hc i pins s σ H E I hf st hg
    subst hP hw hK
    obtain ⟨hd, hi⟩ := hg
    obtain ⟨f0, f1, f2, f3, f4, f5⟩ := hf it (by simp)
    obtain ⟨hs, hgd, hx, es', ep', hdt, hsz, ent⟩ := frzT2 I hd
    obtain ⟨rfl, rfl⟩ := dict_ep hod hdt
    rw [← hsz] at st
    exact wpAny_pyNext_values_end_raw (I.ok.hd hc) st ⟨o, hgd, hx, hdt⟩ (by omega) fun h' eb => ⟨rfl, I.turned (t' := s.toks) (fun b ob hb e => eb b ob hb e) f0 f1 f3 f4 f5⟩
  self := fun A i s Q E st h => wpAny_pyIter_valiter st h
end
/-- both kinds of keys -/
def iVals2 (td : TE) : TI := fun σ H R => td σ H fun x H1 => ∃ d o, x = .ref d ∧ ((∃ kvs, H1 d = some (.frz o (.dK kvs)) ∧ R (Itd d o kvs) H1) ∨ ∃ kvs, H1 d = some (.frz o (.dT kvs)) ∧ R (ItdT d o kvs) H1)
section
variable {X : Cx} {tg e : Expr} {td : TE} {apos cpos : Pos}
theorem pi_values2 (he : PE X e td) (hbase : attributeBase e "values" X.env (eval e X.env) = eval e X.env := by rfl) (hline : (apos.endLine == cpos.line) = true := by rfl) : PI X tg (.Call (.Attribute e "values" apos) [] [] cpos) (iVals2 td) := by
  refine ⟨fun pins s σ H R I h => ?_⟩
  refine wpAny_Call_method (T := "dict") (id := "dict.values") hbase rfl hline F.plainAttrs_dict F.slot_dict_values F.type_dict_values (thn (he.run pins s σ H _ I h) fun u s1 ⟨x, H1, I1, rx, d, o, ex, hq⟩ => ?_)
  subst ex
  obtain rfl : u = Value.ref d := rx
  have raw : ∃ (es : Array DictEntry) (ep : Nat), (d == sysModules) = false ∧ s1.heap.get? d = some o ∧ o.ExactDict ∧ o.data = .dict es ep ∧ ∃ (J : It) (tn : Addr → Nat → Heap → Prop), (∀ it, Turn X.prog X.w X.K tg J [it] it (tn it)) ∧ (∀ (it : Addr) (h : Heap), h.get? it = some { cls := .type "dict_valueiterator", data := .fields #[.ref d, .int 0 0, .int es.size 0, .int ep 0] } → tn it 0 h) ∧ R J H1 := by
    rcases hq with ⟨kvs, hd, q⟩ | ⟨kvs, hd, q⟩
    · obtain ⟨hs, hgd, hx, es, ep, vs, hdt, hsz, kv, hm⟩ := I1.frzK hd
      exact ⟨es, ep, hs, hgd, hx, hdt, _, _, fun it => turn_vals it hdt, fun it h e => ⟨_, e, rfl, by rw [hsz]; rfl⟩, q⟩
    · obtain ⟨hs, hgd, hx, es, ep, hdt, hsz, ent⟩ := frzT2 I1 hd
      exact ⟨es, ep, hs, hgd, hx, hdt, _, _, fun it => turn_valsT it hdt, fun it h e => ⟨_, e, rfl, by rw [hsz]; rfl⟩, q⟩
  obtain ⟨es, ep, hs, hgd, hx, hdt, J, tn, T, st, q⟩ := raw
  have hty : s1.TypeIs (.ref d) "dict" := ⟨o, hgd, hx.1⟩
  refine ⟨hty, fun a e => by cases e; exact ⟨o, hgd, hx.2.1⟩, ?_⟩
  have I2 : Inv X pins σ H1 { s1 with heap := s1.heap.push { cls := .type "dict_values", data := .fields #[.ref d] } } := I1.kept (t' := s1.toks) fun b ob q => Heap.get?_push_of_some _ q
  have fin : wpAny (model X.prog X.w) X.A (pyIter (.ref s1.heap.objs.size)) (PIE X pins σ tg R) X.xe { s1 with heap := s1.heap.push { cls := .type "dict_values", data := .fields #[.ref d] } } :=
    wpAny_pyIter_values_raw (d := d) (es := es) (ep := ep) ⟨_, Heap.get?_push_size _ rfl, rfl, rfl⟩ ⟨o, Heap.get?_push_of_some _ hgd, hx, hdt⟩ (pi_one (tk := s1.toks) I2 _ (T _) (st _ _ (Heap.get?_push_size _ rfl)) q)
  show wpAny _ _ (callWith cpos (.builtin "dict.values") [.ref d] [] []) _ X.xe s1
  exact method_meetsIn F.slot_dict_values F.entry_dict_values rfl (PySem.evalArgs_none ⟨rfl, hty, F.args_dict_values_1 _, _, meets_dict_values_raw d hs, ⟨es, ep, o, hgd, hx, hdt⟩, fin⟩)
end
/-! what they walk, as data -/
def iValsD (f : DL.Env → Res D) : DL.Env → Res (List D) := fun e => (f e).bind fun d => match d with
  | .dct _ kvs => .ok (kvs.map (·.2))
  | _ => .bad
section
variable {K : PySem.W.Frag} {B G : Hp} {d : Addr} {o : Obj}
theorem repV_get : ∀ {kvs : List (D × D)} {vs : List V} {i : Nat} {v : V}, RepV K G kvs vs → vs[i]? = some v → ∃ p, kvs[i]? = some p ∧ Rep K G p.2 v
  | [], _, i, v, e, h => by rw [show _ = [] from e] at h; simp at h
  | (k, x) :: _, _, 0, v, ⟨w, r, e, a, b⟩, h => by rw [e] at h; cases h; exact ⟨_, rfl, a⟩
  | (k, x) :: _, _, i + 1, v, ⟨w, r, e, a, b⟩, h => by
    rw [e] at h
    obtain ⟨p, h1, h2⟩ := repV_get (i := i) (v := v) b (by simpa using h)
    exact ⟨p, by simpa using h1, h2⟩
theorem keys_len {α β : Type} {kvs : List (D × D)} {ps : List (α × β)} {f : α → D} (hk : kvs.map (·.1) = ps.map fun p => f p.1) : kvs.length = ps.length := by
  have := congrArg List.length hk
  rwa [List.length_map, List.length_map] at this
theorem walk_valsK {kvs : List (D × D)} {ps : List (Key × V)} (h : B d = some (.frz o (.dK ps))) (hk : kvs.map (·.1) = ps.map fun p => keyD p.1) (r : RepV K G kvs (ps.map (·.2))) : WalkOf K (Itd d o ps) (kvs.map (·.2)) B G where
  go := fun H i s hi => ⟨s _ _ h, by rw [List.length_map, keys_len hk] at hi; exact hi⟩
  stop := fun H s => ⟨s _ _ h, by rw [List.length_map, keys_len hk]; exact Nat.le_refl _⟩
  yld := fun H G2 i x H' s g g2 hi y => by
    obtain ⟨e, k, hp⟩ := y
    subst e
    obtain ⟨p, h1, h2⟩ := repV_get (i := i) (v := x) r (by rw [List.getElem?_map, hp]; rfl)
    exact ⟨p.2, G2, by rw [List.getElem?_map, h1]; rfl, Ext.refl g2, h2.mono g⟩
theorem walk_valsT {kvs : List (D × D)} {ps : List (List Key × V)} (h : B d = some (.frz o (.dT ps))) (hk : kvs.map (·.1) = ps.map fun p => keyT p.1) (r : RepV K G kvs (ps.map (·.2))) : WalkOf K (ItdT d o ps) (kvs.map (·.2)) B G where
  go := fun H i s hi => ⟨s _ _ h, by rw [List.length_map, keys_len hk] at hi; exact hi⟩
  stop := fun H s => ⟨s _ _ h, by rw [List.length_map, keys_len hk]; exact Nat.le_refl _⟩
  yld := fun H G2 i x H' s g g2 hi y => by
    obtain ⟨e, k, hp⟩ := y
    subst e
    obtain ⟨p, h1, h2⟩ := repV_get (i := i) (v := x) r (by rw [List.getElem?_map, hp]; rfl)
    exact ⟨p.2, G2, by rw [List.getElem?_map, h1]; rfl, Ext.refl g2, h2.mono g⟩
end
section
variable {X : Cx} {W : WX} {A : Nat → Prop} {tg ex : Expr} {f : DL.Env → Res D} {apos cpos : Pos}
theorem di_vals (h : DE X W A ex f) (hbase : attributeBase ex "values" X.env (eval ex X.env) = eval ex X.env := by rfl) (hline : (apos.endLine == cpos.line) = true := by rfl) : DI X W A tg (.Call (.Attribute ex "values" apos) [] [] cpos) (iValsD f) :=
  (pi_values2 h hbase hline).imp fun σ H Q ⟨e, G, E, p⟩ => ⟨e, G, E, p.split.imp fun d H1 G1 x1 p1 v rv => by
    cases d with
    | dct t kvs =>
      obtain ⟨a, rfl, ⟨_, od, ps, s, k, r⟩ | ⟨_, od, ps, s, k, r⟩⟩ := rv
      · exact ⟨a, od, rfl, .inl ⟨ps, x1.gh _ _ s, PostG.here (a := kvs.map (·.2)) p1 x1.gh _ (walk_valsK s k r)⟩⟩
      · exact ⟨a, od, rfl, .inr ⟨ps, x1.gh _ _ s, PostG.here (a := kvs.map (·.2)) p1 x1.gh _ (walk_valsT s k r)⟩⟩
    | _ => exact (show False from p1).elim⟩
end
end DL

/-! dicts with tuple keys compared (values whole numbers) -/
namespace DL.EqH
open Lean PySem PySem.Calls PyProof.Rows PyProof.V PySem.Spec PySem.W
section
variable {prog : Program} {w : World} {K : Type} [DecidableEq K] {knd : HeapKind prog w K} {A : Around} {E : Value → Shared → Prop} {s : Shared}
inductive HitsH {K : Type} [DecidableEq K] (A : Around) (s : Shared) (kb : List (K × Addr × Value)) : List (K × Addr × Value) → Bool → Prop
  | nil : HitsH A s kb [] true
  | miss {k : K} {v : Addr × Value} {r : List (K × Addr × Value)} : (∀ (j : Nat) (p : Addr × Value), kb[j]? ≠ some (k, p)) → HitsH A s kb ((k, v) :: r) false
  | hit {k : K} {v y : Addr × Value} {r : List (K × Addr × Value)} {e b : Bool} {j : Nat} : kb[j]? = some (k, y) → SeqAt.EqAt A s v.2 y.2 e → HitsH A s kb r b → HitsH A s kb ((k, v) :: r) (e && b)
theorem HitsH.inv {kb : List (K × Addr × Value)} {k : K} {v : Addr × Value} {r : List (K × Addr × Value)} {b : Bool} (h : HitsH A s kb ((k, v) :: r) b) :
    ((∀ (j : Nat) (p : Addr × Value), kb[j]? ≠ some (k, p)) ∧ b = false) ∨ ∃ (j : Nat) (y : Addr × Value) (e b' : Bool), kb[j]? = some (k, y) ∧ SeqAt.EqAt A s v.2 y.2 e ∧ HitsH A s kb r b' ∧ b = (e && b') := by
  cases h with
  | miss hn => exact .inl ⟨hn, rfl⟩
  | hit hy he hr => exact .inr ⟨_, _, _, _, hy, he, hr, rfl⟩
theorem once {kb : List (K × Addr × Value)} (hn : (kb.map (·.1)).Nodup) {i j : Nat} {k : K} {p q : Addr × Value} (h1 : kb[i]? = some (k, p)) (h2 : kb[j]? = some (k, q)) : i = j := by
  obtain ⟨a1, a2⟩ := List.getElem?_eq_some_iff.mp h1
  obtain ⟨b1, b2⟩ := List.getElem?_eq_some_iff.mp h2
  have l1 : i < (kb.map (·.1)).length := by rwa [List.length_map]
  have l2 : j < (kb.map (·.1)).length := by rwa [List.length_map]
  refine (List.getElem_inj (h₀ := l1) (h₁ := l2) hn).mp ?_
  rw [List.getElem_map, List.getElem_map, a2, b2]
end
end DL.EqH
namespace DL
open PySem PySem.Spec PyProof.Rows L2
section
variable {X : Cx} {W : WX}
end
end DL

/-! isinstance(e, (A, B, ..)), e the error that a handler names -/
namespace DL
open PySem PySem.Spec PyProof.Rows L2
def anyO : List (Option Bool) → Option Bool
  | [] => some false
  | some true :: _ => some true
  | some false :: r => anyO r
  | none :: _ => none
/-- the tables of several classes, at the class k -/
inductive Tabs (K : PySem.W.Frag) (mg : Str → Option Value) (k : String) : List V → List Value → List (Option Bool) → Prop where
  | nil : Tabs K mg k [] [] []
  | cons {c : Addr} {t : String → Option Bool} {vs : List V} {us : List Value} {os : List (Option Bool)} (h : IsTab K mg (.ref c) t) (r : Tabs K mg k vs us os) : Tabs K mg k (.ref c :: vs) (.ref c :: us) (t k :: os)
theorem Tabs.cls {K : PySem.W.Frag} {mg : Str → Option Value} {k : String} {vs : List V} {us : List Value} {os : List (Option Bool)} (h : Tabs K mg k vs us os) : Paired ClsV vs us := by
  induction h with
  | nil => exact .nil
  | cons _ _ ih => exact .cons (.own _) ih
theorem Tabs.any {K : PySem.W.Frag} {mg : Str → Option Value} {k : String} {C : Addr} (hm : mg (Str.ofString k) = some (.ref C)) {vs : List V} {us : List Value} {os : List (Option Bool)} (h : Tabs K mg k vs us os) : ∀ {b : Bool}, anyO os = some b → PySem.W.kitAny K (.ref C) us = some b := by
  induction h with
  | nil => intro b h; cases h; exact kitAny_nil
  | @cons c t vs us os h r ih =>
    intro b hb
    cases ht : t k with
    | none => rw [ht] at hb; cases hb
    | some z =>
      obtain ⟨C', e, _, h3⟩ := h k z _ ht hm
      cases e
      rw [ht] at hb
      cases z with
      | true => cases hb; exact kitAny_cons h3 (fun z => by cases z) fun _ => rfl
      | false => exact kitAny_cons h3 (fun _ => ih hb) fun z => by cases z
section
variable {X : Cx} {W : WX} {A : Nat → Prop} {pos p p1 p2 : Pos}
end
end DL

/-! a def that is lent lists and dicts of the caller's own: it may change them; the caller has them back -/
namespace DL
open PySem PySem.Spec PyProof.Rows L2
/-- the promise of a def that is lent its parameters at bs -/
def spM (K : PySem.W.Frag) (mg : Str → Option Value) (n : Nat) (bs : List Nat) (F : List D → Res (D × List D)) : Sp := fun vs H Q E => vs.length = n ∧ ∃ (ds : List D) (G : Hp) (B : Bas), Sub G B.hp ∧ Sub B.hp H ∧ ds.length = n ∧
  (∀ i d, ds[i]? = some d → i ∉ bs → ∃ v, vs[i]? = some v ∧ Rep K G d v) ∧
  (∀ i d, ds[i]? = some d → i ∈ bs → ∃ a, B.pin i = some a ∧ vs[i]? = some (.ref a) ∧ B.hp a = none ∧ OwnC K H G d a) ∧
  (∀ i, i ∉ bs → B.pin i = none) ∧ (∀ i j a, B.pin i = some a → B.pin j = some a → i = j) ∧
  match F ds with
  | .ok (r, cs) => ∀ H' G', Ext B.hp G H' G' → (∀ (k i : Nat) c, bs[k]? = some i → cs[k]? = some c → ∃ a, B.pin i = some a ∧ B.hp a = none ∧ G' a = none ∧ OwnC K H' G' c a) → ∀ v, Rep K G' r v → Q v H'
  | .exc c fs => ∀ cls o H', Sub B.hp H' → IsExc K mg c fs cls o H' → E cls o H'
  | .bad => False
structure CallOkM (P : Program) (w : World) (K : PySem.W.Frag) (mg : Str → Option Value) (base : Heap) (k : Nat) (x : Str) (ps : List Str) (bs : List Nat) (F : List D → Res (D × List D)) : Prop where
  ok : ∃ f fd, mg x = some (.ref f) ∧ PySem.W.keepIn K (.ref f) = true ∧ Binds K fd ps [] ∧ FnOk P w K mg base (L2.CX P w) k f fd ps (spM K mg ps.length bs F)
theorem CallOkM.up {P : Program} {w : World} {K : PySem.W.Frag} {mg : Str → Option Value} {base : Heap} {j k : Nat} {x : Str} {ps : List Str} {bs : List Nat} {F : List D → Res (D × List D)} (h : CallOkM P w K mg base j x ps bs F) (hjk : j ≤ k) : CallOkM P w K mg base k x ps bs F :=
  let ⟨f, fd, h1, h2, h3, h4⟩ := h.ok
  ⟨f, fd, h1, h2, h3, h4.mono hjk⟩
/-- the names at the start, those at bs lent -/
def envMa (bs : List Nat) : Nat → List D → Env
  | _, [] => []
  | k, d :: r => some (d, bs.elem k) :: envMa bs (k + 1) r
end DL

/-! calls of such defs: what is written, some of it lent -/
namespace DL
open PySem PySem.Spec PyProof.Rows L2
/-- what is handed over: a value, the list or dict of a name of one's own, a new list or dict -/
inductive MA where
  | val (d : D)
  | own (i : Nat)
  | new (d : D)
def RelM (K : PySem.W.Frag) (H G : Hp) (σ : L2.St) : List MA → List V → Prop
  | [], vs => vs = []
  | .val d :: r, vs => ∃ v l, vs = v :: l ∧ Rep K G d v ∧ RelM K H G σ r l
  | .own i :: r, vs => ∃ v l, vs = v :: l ∧ σ[i]? = some (some v) ∧ RelM K H G σ r l
  | .new d :: r, vs => ∃ a l, vs = .ref a :: l ∧ G a = none ∧ OwnC K H G d a ∧ RelM K H G σ r l
section
variable (K : PySem.W.Frag) (mg : Str → Option Value) (W : WX) (A : Nat → Prop)
end
section
variable {X : Cx} {W : WX} {A : Nat → Prop} {a : Expr} {es : List Expr} {H0 : Bas} {G0 : Hp} {al : List Nat} {pos p : Pos}
end
end DL

/-! the call itself -/
namespace DL
open PySem PySem.Spec PyProof.Rows L2
theorem RelM.length {K : PySem.W.Frag} {H G : Hp} {σ : L2.St} : ∀ {l : List MA} {vs : List V}, RelM K H G σ l vs → vs.length = l.length
  | [], _, h => by rw [show _ = [] from h]; rfl
  | .val _ :: _, _, ⟨v, r, e, _, h⟩ => by rw [e, List.length_cons, List.length_cons, RelM.length h]
  | .own _ :: _, _, ⟨v, r, e, _, h⟩ => by rw [e, List.length_cons, List.length_cons, RelM.length h]
  | .new _ :: _, _, ⟨v, r, e, _, _, h⟩ => by rw [e, List.length_cons, List.length_cons, RelM.length h]
/-- what is so of a thing handed over -/
def AtM (K : PySem.W.Frag) (H G : Hp) (σ : L2.St) : MA → V → Prop
  | .val d, v => Rep K G d v
  | .own i, v => σ[i]? = some (some v)
  | .new d, v => ∃ a, v = .ref a ∧ G a = none ∧ OwnC K H G d a
theorem RelM.at {K : PySem.W.Frag} {H G : Hp} {σ : L2.St} : ∀ {l : List MA} {vs : List V} {k : Nat} {z : MA}, RelM K H G σ l vs → l[k]? = some z → ∃ v, vs[k]? = some v ∧ AtM K H G σ z v
  | .val d :: _, _, 0, _, ⟨v, r, e, h1, _⟩, h => by cases h; exact ⟨v, by rw [e]; rfl, h1⟩
  | .own i :: _, _, 0, _, ⟨v, r, e, h1, _⟩, h => by cases h; exact ⟨v, by rw [e]; rfl, h1⟩
  | .new i :: _, _, 0, _, ⟨v, r, e, h1, h2, _⟩, h => by cases h; exact ⟨.ref v, by rw [e]; rfl, v, rfl, h1, h2⟩
  | .val _ :: l, _, k + 1, z, ⟨v, r, e, _, h2⟩, h => by
    obtain ⟨w, h3, h4⟩ := RelM.at (k := k) (z := z) h2 (by simpa using h)
    exact ⟨w, by rw [e]; simpa using h3, h4⟩
  | .own _ :: l, _, k + 1, z, ⟨v, r, e, _, h2⟩, h => by
    obtain ⟨w, h3, h4⟩ := RelM.at (k := k) (z := z) h2 (by simpa using h)
    exact ⟨w, by rw [e]; simpa using h3, h4⟩
  | .new _ :: l, _, k + 1, z, ⟨v, r, e, _, _, h2⟩, h => by
    obtain ⟨w, h3, h4⟩ := RelM.at (k := k) (z := z) h2 (by simpa using h)
    exact ⟨w, by rw [e]; simpa using h3, h4⟩
section
variable {K : PySem.W.Frag} {H0 : Bas} {G0 H G : Hp} {σ : L2.St}
end
end DL

/-! statements that call a def that is lent lists and dicts -/
namespace DL
open PySem PySem.Spec PyProof.Rows L2
section
variable {X : Cx} {W : WX} {H0 : Bas} {G0 : Hp} {al : List Nat} {pos : Pos}
end
end DL

/-! defs that are lent things and call themselves; a, b = f(..) of such a def -/
namespace DL
open PySem PySem.Spec PyProof.Rows L2
section
variable {X : Cx} {W : WX} {H0 : Bas} {G0 : Hp} {al : List Nat} {pos : Pos}
end
end DL

/-! d.update(e) of dicts with number or text keys; statements that are never reached -/
namespace DL
open PySem PySem.Spec PyProof.Rows L2
section
variable {X : Cx}
end
section
variable {X : Cx} {W : WX} {H0 : Bas} {G0 : Hp} {al : List Nat} {ex : Expr} {es : List Expr} {pos apos cpos p1 p2 : Pos}
end
end DL

/-! a text walked, sign by sign -/
namespace DL
open PySem PySem.Spec PyProof.Rows L2
section
variable {X : Cx} {W : WX} {A : Nat → Prop} {ex : Expr}
end
/-! a list, a tuple or a text -/
section
variable {X : Cx} {W : WX} {A : Nat → Prop} {ex : Expr}
end
end DL

/-! tuples without a dict of their own: tuple(l), t + u, t[a:b], t.index(x), t.count(x), dict(t) -/
namespace DL
open PySem PySem.Spec PyProof.Rows L2
open PySem.Builtin.Int (intBits)
/-- its object -/
theorem PlT.obj {X : Cx} {pins : List (Addr × Obj)} {σ : L2.St} {H : Hp} {s : Shared} {a : Addr} {xs : List V} (I : Inv X pins σ H s) (h : PlT X.K H a xs) :
    ∃ (its : List Value) (o : Obj) (n : Nat), Vals xs its ∧ s.heap.get? a = some o ∧ o.cls = .type "tuple" ∧ o.dict = none ∧ o.data = .seq its.toArray n ∧ xs.length ≤ sizeLine := by
  rcases h with ⟨o, h, d⟩ | ⟨o, its, n, hk, hc, hd, hs, hz, r⟩
  · obtain ⟨e, z, its, r, o', e', c, n, q⟩ := I.hok a _ h
    rw [e] at e'; cases e'
    exact ⟨its, o, n, r, e, c, d, q, z⟩
  · refine ⟨its.toList, o, n, r, I.kIn a o hk, hc, hd, by simpa using hs, ?_⟩
    have e := r.length
    simp only [Array.length_toList] at e
    omega
section
variable {X : Cx} {W : WX} {A : Nat → Prop}
/-! ### tuple(l) -/
def dTupleP : D → Res D
  | .lst xs => .ok (.con xs)
  | .con xs => .ok (.con xs)
  | _ => .bad
def rTupP (K : PySem.W.Frag) : List V → Hp → VK → Prop := fun xs H Q => ∃ p ys, xs = [.ref p] ∧ ((SqL K H p ys ∧ ∀ q o, o.dict = none → H q = none → Q (.ref q) (upd H q (.frz o (.tup ys)))) ∨ (SqT K H p ys ∧ Q (.ref p) H))
theorem call_tupleP : CallR X (.type "tuple") (rTupP X.K) := by
  intro pins s σ H xs us Q I r h
  obtain ⟨p, ys, rfl, h⟩ := h
  obtain ⟨v, rfl, rx⟩ := vals1 r
  obtain rfl : v = .ref p := rx
  rcases h with ⟨hs, q⟩ | ⟨hs, q⟩
  · obtain ⟨its, rv, pl, hz⟩ := I.list hs
    refine call_tuple_list pl.isList (fun h' hk => ?_) (by rw [List.size_toArray, ← rv.length]; exact hz)
    have I1 : Inv X pins σ H { s with heap := h' } := I.kept (t' := s.toks) hk
    have I2 : Inv X pins σ (upd H h'.objs.size (.frz { cls := .type "tuple", data := .seq its.toArray } (.tup ys))) { s with heap := h'.push { cls := .type "tuple", data := .seq its.toArray } } :=
      I1.laid (t' := s.toks) (fun b o e => Heap.get?_push_of_some _ e) (Nat.le_refl _) (show ObjOk X.prog X.w _ _ _ (.frz _ (.tup ys)) from ⟨Heap.get?_push_size _ rfl, hz, its, rv, IsTup.new _ _⟩)
    exact ⟨.ref h'.objs.size, _, I2, rfl, q _ _ rfl (I1.hok.fresh (Nat.le_refl _))⟩
  · obtain ⟨its, rv, pl, hz⟩ := I.tuple hs
    exact call_tuple_tup pl ⟨.ref p, H, I, rfl, q⟩
theorem c1_tupleP : Call1 X W (.type "tuple") dTupleP := by
  refine ⟨_, call_tupleP, fun σ H G x dx Q sg rx p => ?_⟩
  cases dx with
  | lst ds =>
    obtain ⟨q, vs, e, s, r⟩ := rx
    subst e
    refine ⟨q, vs, rfl, .inl ⟨s, fun l o hd hl => ?_⟩⟩
    exact (show PostG X.K X.mg _ H G (Res.ok (D.con ds)) _ from p) _ _ (Ext.laid sg hl) _ ⟨l, vs, rfl, .inl ⟨o, upd_same, hd⟩, r.mono (Sub.upd (sg.free hl))⟩
  | con ds =>
    have rx : Rep X.K G (.con ds) x := rx
    obtain ⟨q, vs, e, s, r⟩ := id rx
    subst e
    exact ⟨q, vs, rfl, .inr ⟨sg.sqt s.sqt, PostG.val (d := .con ds) p sg rx⟩⟩
  | _ => exact (show False from p).elim
/-! ### t + u -/
def dCatP : D → D → Res D
  | .con a, .con b => if a.length + b.length ≤ sizeLine then .ok (.con (a ++ b)) else .bad
  | _, _ => .bad
def rCatP (K : PySem.W.Frag) : R2 := fun x y H Q => ∃ a b xs ys, x = .ref a ∧ y = .ref b ∧ SqT K H a xs ∧ SqT K H b ys ∧ xs.length + ys.length ≤ sizeLine ∧
  (xs = [] → Q (.ref b) H) ∧ (xs ≠ [] → ys = [] → Q (.ref a) H) ∧ (xs ≠ [] → ys ≠ [] → ∀ p o, o.dict = none → H p = none → Q (.ref p) (upd H p (.frz o (.tup (xs ++ ys)))))
theorem op_catP : OpR X (binaryOp .Add) (rCatP X.K) := by
  intro pins s σ H x y v u Q I rx ry h
  obtain ⟨a, b, xs, ys, rfl, rfl, ha, hb, hz, q0, q1, q2⟩ := h
  cases rx
  cases ry
  obtain ⟨its, r1, p1, _⟩ := I.tuple ha
  obtain ⟨its2, r2, p2, _⟩ := I.tuple hb
  by_cases hx : xs = []
  · subst hx
    cases r1
    exact cat_tup0 p1 p2 ⟨.ref b, H, I, rfl, q0 rfl⟩
  · refine HT.cat_tup p1 p2 (fun z => hx (r1.nil_iff.mp z)) (fun z => ⟨.ref a, H, I, rfl, q1 hx (r2.nil_iff.mp z)⟩) (fun z => ?_) (by rw [← r1.length, ← r2.length]; exact hz)
    refine ⟨.ref s.heap.objs.size, _, I.laid (t' := s.toks) (o := .frz { cls := .type "tuple", data := .seq (its ++ its2).toArray } (.tup (xs ++ ys))) (fun b ob q => Heap.get?_push_of_some _ q) (Nat.le_refl _) ?_, rfl, q2 hx (fun w => z (r2.nil_iff.mpr w)) _ _ rfl (I.hok.fresh (Nat.le_refl _))⟩
    exact ⟨Heap.get?_push_size _ rfl, by rw [List.length_append]; exact hz, _, r1.append r2, IsTup.new _ _⟩
theorem od_catP : OpD X W (binaryOp .Add) dCatP := by
  refine ⟨_, op_catP, fun σ H G x y dx dy Q sg rx ry p => ?_⟩
  cases dx with
  | con i =>
    cases dy with
    | con j =>
      dsimp only [dCatP] at p
      by_cases hc : i.length + j.length ≤ sizeLine
      · rw [if_pos hc] at p
        obtain ⟨a, vs, e1, s1, r1⟩ := (show Rep X.K G (.con i) x from rx)
        obtain ⟨b, ws, e2, s2, r2⟩ := (show Rep X.K G (.con j) y from ry)
        refine ⟨a, b, vs, ws, e1, e2, sg.sqt s1.sqt, sg.sqt s2.sqt, by rw [r1.length, r2.length]; exact hc, fun z => ?_, fun z1 z2 => ?_, fun z1 z2 q o hd hq => ?_⟩
        · subst z
          refine p.here sg _ ⟨b, ws, rfl, s2, ?_⟩
          cases i with
          | nil => exact r2
          | cons d ds => obtain ⟨_, _, e, _⟩ := r1; cases e
        · subst z2
          refine p.here sg _ ⟨a, vs, rfl, s1, ?_⟩
          cases j with
          | nil => rw [List.append_nil]; exact r1
          | cons d ds => obtain ⟨_, _, e, _⟩ := r2; cases e
        · exact p _ _ (Ext.laid sg hq) _ ⟨q, _, rfl, .inl ⟨o, upd_same, hd⟩, (r1.append r2).mono (Sub.upd (sg.free hq))⟩
      · rw [if_neg hc] at p; exact p.elim
    | _ => exact (show False from p).elim
  | _ => exact (show False from p).elim
/-! ### t[a:b] -/
variable {a b e o : Expr} {lo hi : Option Expr} {es : List Expr} {pos p2 apos cpos : Pos}
/-! ### methods -/
def D.isCon : D → Bool
  | .con _ => true
  | _ => false
def eMethP (g : D → List D → Res D) (fo : DL.Env → Res D) (fs : DL.Env → Res (List D)) : DL.Env → Res D := fun e => (fo e).bind fun d => if D.isCon d = true then (fs e).bind fun ds => g d ds else .bad
def tBMP (K : PySem.W.Frag) (r : V → List V → Hp → VK → Prop) (to : TE) (t : TA) : TE := fun σ H Q => to σ H fun x H1 => (∃ p xs, x = .ref p ∧ PlT K H1 p xs) ∧ t σ H1 fun xs H2 => r x xs H2 Q
theorem pe_bmP {name : Str} {id : String} {r : V → List V → Hp → VK → Prop} {to : TE} {t : TA} (slot : Slot "tuple" name id) (hty : typeOf (.builtin id) = pure (.type "method_descriptor")) (hm : MtR X id r) (ho : PE X o to) (ha : PA X (e :: es) t)
    (hbase : attributeBase o name X.env (eval o X.env) = eval o X.env := by rfl)
    (hfew : ((backTo cpos (starEach (e :: es) X.env)).all (fun x => !x.1) && (backToKw cpos (keywordEach [] X.env)).all (fun x => x.1.isSome)
      && decide ((e :: es).length + ([] : List Keyword).length + (if ([] : List Keyword).isEmpty then 0 else 1) < 30)) = true := by rfl)
    (hline : (apos.endLine == cpos.line) = true := by rfl) (hs : starEach (e :: es) X.env = (false, eval e X.env) :: starEach es X.env := by rfl) (hplain : (backTo cpos (starEach es X.env)).any (·.1) = false := by rfl) :
    PE X (.Call (.Attribute o name apos) (e :: es) [] cpos) (tBMP X.K r to t) := by
  refine ⟨fun pins s σ H Q I h => ?_⟩
  refine wpAny_Call_method_late hbase hfew hline rfl (thn (ho.run pins s σ H _ I h) fun v s1 ⟨x, H1, I1, r1, ⟨p, xs, ex, pl⟩, q1⟩ => ?_)
  subst ex
  obtain rfl : v = .ref p := r1
  obtain ⟨its, ob, n, _, e1, e2, e3, _, _⟩ := pl.obj I1
  refine ⟨"tuple", id, PySem.F.plainAttrs_tuple, slot, hty, ⟨ob, e1, e2⟩, fun a e => by cases e; exact ⟨ob, e1, e3⟩, ?_⟩
  have hA := ha.run cpos pins s1 σ H1 _ I1 q1
  rw [hs] at hA ⊢
  refine Calls.callWith_builtin (by show (false || (backTo cpos (starEach es X.env)).any (·.1)) = false; rw [hplain] <;> rfl) (Calls.evalArgs_plain ?_)
  exact thn hA fun us s2 ⟨vs, H2, I2, r2, q2⟩ => hm pins s2 σ H2 (.ref p) vs (.ref p) us Q I2 rfl r2 q2
def MethP (X : Cx) (W : WX) (id : String) (g : D → List D → Res D) : Prop :=
  ∃ r, MtR X id r ∧ ∀ (σ : L2.St) (H G : Hp) (x : V) (vs : List V) (dx : D) (ds : List D) (Q : VK), Sub G H → D.isCon dx = true → Rep X.K G dx x → RepL X.K G ds vs →
    PostG X.K X.mg (fun c o H' => W c o σ H') H G (g dx ds) (fun d H' G' => ∀ v, Rep X.K G' d v → Q v H') → r x vs H Q
theorem de_methP {name : Str} {id : String} {g : D → List D → Res D} {fo : DL.Env → Res D} {fs : DL.Env → Res (List D)} (slot : Slot "tuple" name id) (hty : typeOf (.builtin id) = pure (.type "method_descriptor")) (hm : MethP X W id g) (ho : DR X W A o fo) (ha : DA X W A (e :: es) fs)
    (hbase : attributeBase o name X.env (eval o X.env) = eval o X.env := by rfl)
    (hfew : ((backTo cpos (starEach (e :: es) X.env)).all (fun x => !x.1) && (backToKw cpos (keywordEach [] X.env)).all (fun x => x.1.isSome)
      && decide ((e :: es).length + ([] : List Keyword).length + (if ([] : List Keyword).isEmpty then 0 else 1) < 30)) = true := by rfl)
    (hline : (apos.endLine == cpos.line) = true := by rfl) (hs : starEach (e :: es) X.env = (false, eval e X.env) :: starEach es X.env := by rfl) (hplain : (backTo cpos (starEach es X.env)).any (·.1) = false := by rfl) :
    DE X W A (.Call (.Attribute o name apos) (e :: es) [] cpos) (eMethP g fo fs) := by
  obtain ⟨r, m1, m2⟩ := hm
  refine (pe_bmP slot hty m1 ho ha hbase hfew hline hs hplain).imp fun σ H Q ⟨en, G, E, q⟩ => ⟨en, G, E, q.split.imp fun d H1 G1 x1 q1 v rv => ?_⟩
  by_cases hc : D.isCon d = true
  · rw [if_pos hc] at q1
    have rv : Rep X.K G1 d v := by
      cases d with
      | con ds => exact rv
      | _ => cases hc
    refine ⟨?_, en, G1, E.ext x1, q1.split.imp fun ds H2 G2 x2 q2 vs rs => m2 σ H2 G2 v vs d ds Q x2.gh hc (rv.mono x2.gg) rs q2⟩
    cases d with
    | con ds =>
      obtain ⟨a, vs, e, s, _⟩ := rv
      exact ⟨a, vs, e, x1.gh.plt s⟩
    | _ => cases hc
  · rw [if_neg hc] at q1; exact q1.elim
def dCountP : D → List D → Res D := fun l ks => match l, ks with
  | .con xs, [k] => if k.pl 50 = true ∧ D.pls xs 50 = true then .ok (.int ((xs.countP fun z => D.beq z k : Nat) : Int)) else .bad
  | _, _ => .bad
def rCountP (K : PySem.W.Frag) : V → List V → Hp → VK → Prop := fun x xs H Q => ∃ (a : Addr) (y : V) (vs : List V) (d : PyData) (ds : List PyData), x = V.ref a ∧ xs = [y] ∧ SqT K H a vs ∧ DpAll K H vs ds ∧ Dp K H y d ∧
  SeqAt.shaped (.list ds) = true ∧ SeqAt.shaped d = true ∧ Q (.int ((ds.countP fun y => PyData.eqv y d : Nat) : Int)) H
theorem mt_countP (hu : X.A.units + 65 < cLine) : MtR X "tuple.count" (rCountP X.K) := by
  intro pins s σ H x xs v us Q I rx rxs h
  obtain ⟨a, y, vs, d, ds, rfl, rfl, hs, ha, hy, sl, sd, q⟩ := h
  cases rx
  obtain ⟨uy, rfl, ry⟩ := vals1 rxs
  obtain ⟨bs, r1⟩ := Dp.reads I d y uy hy ry
  have hxs : PyData.canLayAll0 ds = true := SeqAt.canLay_of_shaped sl
  have hroom : X.A.units + 1 + min (PyData.depthAll ds) d.depth < cLine := room_in_shaped sd hu
  obtain ⟨its, rv, ⟨⟨cls, dd, data, sls⟩, ho, hc, n, hdt⟩, hlen⟩ := I.tuple hs
  simp only at hc hdt
  subst hc hdt
  obtain ⟨as, h4⟩ := Dp.readsAll I ds _ its ha rv
  have hmap : its.map (SeqAt.readOf s.heap) = ds := SeqAt.readsAll_map ds its as hxs h4
  have items := SeqAt.items_eqAt (vs := its.toArray) (show ReadsAll s.heap its.toArray.toList ds as from h4) r1 hxs (SeqAt.canLay_of_shaped sd) hroom
  refine call_meets PySem.F.slot_tuple_count ⟨_, ho, rfl⟩ PySem.F.entry_tuple_count (PySem.F.args_tuple_count_2 _ _)
    (SeqAt.tuple_countAt a its.toArray n dd sls uy (fun u => PyData.eqv (SeqAt.readOf s.heap u) d)) ⟨ho, items, ?_⟩
  have e : its.toArray.toList.countP (fun u => PyData.eqv (SeqAt.readOf s.heap u) d) = ds.countP fun y => PyData.eqv y d := by
    rw [← hmap, List.countP_map]
    rfl
  rw [e]
  exact ⟨.int _, H, I.tok _, ⟨_, rfl⟩, q⟩
theorem pys_count (k : D) : ∀ xs : List D, (D.pys xs).countP (fun y => PyData.eqv y k.py) = xs.countP fun z => D.beq z k
  | [] => rfl
  | x :: xs => by
    rw [D.pys, List.countP_cons, List.countP_cons, pys_count k xs]
    rfl
theorem meth_countP (hu : X.A.units + 65 < cLine) : MethP X W "tuple.count" dCountP := by
  refine ⟨_, mt_countP hu, fun σ H G x vs dx ds Q sg ht rx rv q => ?_⟩
  cases dx with
  | con xs =>
    match ds, q with
    | [k], q =>
      dsimp only [dCountP] at q
      by_cases hc : k.pl 50 = true ∧ D.pls xs 50 = true
      · rw [if_pos hc] at q
        obtain ⟨w, _, rfl, rw, e⟩ := rv
        have e : _ = [] := e
        subst e
        obtain ⟨a, us, rfl, s, r⟩ := (show Rep X.K G (.con xs) x from rx)
        refine ⟨a, w, us, k.py, D.pys xs, rfl, rfl, sg.sqt s.sqt, RepL.dp xs 50 us hc.2 (r.mono sg), Rep.dp k 50 w hc.1 (rw.mono sg), shaped_pyL hc.2, shaped_py hc.1 (by decide), ?_⟩
        rw [pys_count]
        exact q.val sg rfl
      · rw [if_neg hc] at q; exact q.elim
  | _ => cases ht
/-! ### dict(t), t a tuple of pairs of a row and a value, the rows unlike -/
/-- a pair: its address, the row's address, the row, the value -/
abbrev Pr4 := Addr × Addr × List Int × V
theorem paired_get {α β : Type} {F : α → β → Prop} : ∀ {l : List α} {r : List β}, Paired F l r → ∀ {i : Nat} {b : β}, r[i]? = some b → ∃ a, l[i]? = some a ∧ F a b
  | _, _, .nil, i, b, h => by simp at h
  | _, _, .cons (a := a) x t, 0, b, h => by cases h; exact ⟨a, rfl, x⟩
  | _, _, .cons (a := a) x t, i + 1, b, h => by
    obtain ⟨c, h1, h2⟩ := paired_get t (i := i) (b := b) (by simpa using h)
    exact ⟨c, by simpa using h1, h2⟩
theorem vals_refs : ∀ {ps : List Pr4} {its : List Value}, Vals (ps.map fun p => V.ref p.1) its → its = ps.map fun p => Value.ref p.1
  | [], _, h => by cases h; rfl
  | p :: ps, _, h => by
    cases h with
    | cons r t =>
      obtain rfl := r
      rw [vals_refs t]; rfl
end
end DL

/-! a written tuple, known to have no dict of its own -/
namespace DL
open PySem PySem.Spec PyProof.Rows L2
open PySem.Builtin.Int (intBits)
section
variable {X : Cx} {W : WX} {A : Nat → Prop} {pos : Pos}
def eTupP (fs : DL.Env → Res (List D)) : DL.Env → Res D := fun e => (fs e).bind fun ds => .ok (.con ds)
@[simp] theorem eTupP_app {fs : DL.Env → Res (List D)} {e : DL.Env} : eTupP fs e = (fs e).bind fun ds => .ok (.con ds) := Eq.trans rfl rfl
end
end DL

/-! a def that gives back a new list or dict of its own -/
namespace DL
open PySem PySem.Spec PyProof.Rows L2
/-- such a def's promise -/
def spN (K : PySem.W.Frag) (mg : Str → Option Value) (n : Nat) (F : List D → Res D) : Sp := fun vs H Q E => vs.length = n ∧ ∃ ds G, Sub G H ∧ RepL K G ds vs ∧ PostG K mg E H G (F ds) fun d H' G' => ∀ a, H a = none → G' a = none → OwnC K H' G' d a → Q (.ref a) H'
structure CallOkN (P : Program) (w : World) (K : PySem.W.Frag) (mg : Str → Option Value) (base : Heap) (k : Nat) (x : Str) (ps : List Str) (F : List D → Res D) : Prop where
  ok : ∃ f fd, mg x = some (.ref f) ∧ PySem.W.keepIn K (.ref f) = true ∧ Binds K fd ps [] ∧ FnOk P w K mg base (L2.CX P w) k f fd ps (spN K mg ps.length F)
theorem CallOkN.up {P : Program} {w : World} {K : PySem.W.Frag} {mg : Str → Option Value} {base : Heap} {j k : Nat} {x : Str} {ps : List Str} {F : List D → Res D} (h : CallOkN P w K mg base j x ps F) (hjk : j ≤ k) : CallOkN P w K mg base k x ps F :=
  let ⟨f, fd, h1, h2, h3, h4⟩ := h.ok
  ⟨f, fd, h1, h2, h3, h4.mono hjk⟩
section
variable {X : Cx} {W : WX} {ex : Expr} {es : List Expr} {pos : Pos}
end
end DL

/-! texts of numbers, put together and taken apart -/
namespace DL
open PySem PySem.Spec PyProof.Rows L2
/-! ### str(number) -/
/-! ### int(text) -/
/-! ### texts in a row -/
/-! ### sep.join(texts) -/
section
variable {X : Cx} {W : WX} {A : Nat → Prop} {o ex : Expr} {apos pos : Pos}
/-! ### f-strings -/
/-- the parts' judgements -/
inductive DJ (X : Cx) (W : WX) (A : Nat → Prop) : List Expr → List (DL.Env → Res D) → Prop where
  | nil : DJ X W A [] []
  | cons {e : Expr} {f : DL.Env → Res D} {es : List Expr} {fs : List (DL.Env → Res D)} (h : DE X W A e f) (r : DJ X W A es fs) : DJ X W A (e :: es) (f :: fs)
end
end DL
namespace L2
open PySem PySem.Spec PyProof.Rows
section
variable {X : Cx} {o : Expr} {apos mpos : Pos} {td : TE}
end
end L2
namespace DL
open PySem PySem.Spec PyProof.Rows L2
section
variable {X : Cx} {W : WX} {A : Nat → Prop} {o : Expr} {apos mpos p pos : Pos}
/-! ### x.split(sep) -/
end
end DL

/-! several except clauses, each with a name for the error -/
namespace L2
open PySem PySem.Spec PyProof.Rows
inductive HdAs (X : Cx) : List ExceptHandler → List (Value × Nat × (Addr → Value → Option Addr → TS)) → Prop
  | nil : HdAs X [] []
  | cons {x n : Str} {c : Value} {i : Nat} {ts : Addr → Value → Option Addr → TS} {b₀ : Stmt} {suite : List Stmt} {np pos' : Pos} {hds : List ExceptHandler} {l : List (Value × Nat × (Addr → Value → Option Addr → TS))} (hc : Names X x c)
      (hi : X.N[i]? = some n) (hln : X.env.kindOf n = some .local)
      (hsu : ∀ (a : Addr) (oe : Obj) (cls : Value) (d : Option Addr) (pn : List (Addr × Obj)), Zc cls d oe → (∃ vs, oe.data = .fields vs) → PSs (X.suite a ((a, oe) :: pn)) (b₀ :: suite) (ts a cls d)) (r : HdAs X hds l) :
      HdAs X (.ExceptHandler (some (.Name x np)) (some n) (b₀ :: suite) pos' :: hds) ((c, i, ts) :: l)
section
variable {X : Cx} {body : List Stmt} {h₀ : ExceptHandler} {hds : List ExceptHandler} {l : List (Value × Nat × (Addr → Value → Option Addr → TS))} {pos : Pos} {tb : WX → TS} {Wout : WX}
end
end L2
namespace DL
open PySem PySem.Spec PyProof.Rows L2
/-- a clause: the slot of its name, what it does at each class, its suite -/
abbrev Hdl := Nat × (String → Option Bool) × (Addr → String → DL.Env → Out)
section
variable {X : Cx} {W : WX} {pos : Pos} {H0 : Bas} {G0 : Hp}
inductive HdD (X : Cx) (H0 : Bas) (G0 : Hp) : List ExceptHandler → List Hdl → Prop
  | nil : HdD X H0 G0 [] []
  | cons {i : Nat} {x n : Str} {c : Value} {suite : List Stmt} {b₀ : Stmt} {np pos' : Pos} {h : String → Option Bool} {fs : Addr → String → DL.Env → Out} {hds : List ExceptHandler} {l : List Hdl} (hi : X.N[i]? = some n) (hln : X.env.kindOf n = some .local) (hc : Names X x c) (hh : Clause X.K X.mg c h)
    (hsu : ∀ (a : Addr) (oe : Obj) (cls : Value) (pn : List (Addr × Obj)) (k : String), Zc cls none oe → (∃ vs, oe.data = .fields vs) → X.mg (Str.ofString k) = some cls → DSs (X.suite a ((a, oe) :: pn)) WF H0 G0 (b₀ :: suite) (fs a k)) (r : HdD X H0 G0 hds l) :
    HdD X H0 G0 (.ExceptHandler (some (.Name x np)) (some n) (b₀ :: suite) pos' :: hds) ((i, h, fs) :: l)
end
end DL

/-! a loop over a list of one's own that is kept one's own: through the loop its name stands for the bare value -/
namespace DL
open PySem PySem.Spec PyProof.Rows L2
mutual
/-- numbers, texts, truth values, nothing, and tuples of these -/
def D.tfl : D → Bool
  | .non => true
  | .bl _ => true
  | .int _ => true
  | .str _ => true
  | .tup ds => D.tfls ds
  | _ => false
def D.tfls : List D → Bool
  | [] => true
  | d :: r => D.tfl d && D.tfls r
end
/-- the part G without what stands at a -/
def delA (G : Hp) (a : Addr) : Hp := fun b => if b = a then none else G b
theorem delA_ne {G : Hp} {a b : Addr} (h : b ≠ a) : delA G a b = G b := if_neg h
theorem delA_at {G : Hp} {a : Addr} : delA G a a = none := if_pos rfl
theorem delA_sub (G : Hp) (a : Addr) : Sub (delA G a) G := fun b o e => by
  by_cases h : b = a
  · subst h; rw [delA_at] at e; cases e
  · rw [delA_ne h] at e; exact e
mutual
theorem Rep.del {K : PySem.W.Frag} {G : Hp} {a : Addr} (ha : ∀ vs, G a ≠ some (.tup vs)) : ∀ {d : D} {v : V}, d.tfl = true → Rep K G d v → Rep K (delA G a) d v
  | .non, _, _, e => e
  | .bl _, _, _, e => e
  | .int _, _, _, e => e
  | .str _, _, _, e => e
  | .tup ds, _, f, ⟨t, vs, e, s, r⟩ => ⟨t, vs, e, by rw [delA_ne (fun z => ha vs (by rw [← z]; exact s))]; exact s, RepL.del ha (show D.tfls ds = true from f) r⟩
  | .obj _, _, f, _ => by cases f
  | .con _, _, f, _ => by cases f
  | .lst _, _, f, _ => by cases f
  | .dct _ _, _, f, _ => by cases f
theorem RepL.del {K : PySem.W.Frag} {G : Hp} {a : Addr} (ha : ∀ vs, G a ≠ some (.tup vs)) : ∀ {ds : List D} {vs : List V}, D.tfls ds = true → RepL K G ds vs → RepL K (delA G a) ds vs
  | [], _, _, e => e
  | d :: r, _, f, ⟨v, w, e, x, y⟩ => ⟨v, w, e, Rep.del ha (Bool.and_eq_true_iff.mp f).1 x, RepL.del ha (Bool.and_eq_true_iff.mp f).2 y⟩
end
theorem Ext.del {H G H' G' : Hp} {a : Addr} {o : HO} (g : G a = none) (x : Ext H (upd G a o) H' G') : Ext H G H' (delA G' a) := by
  refine ⟨x.hh, fun b u e => ?_, (delA_sub G' a).trans x.gh, fun b z => ?_⟩
  · have hb : b ≠ a := fun z => by rw [z, g] at e; cases e
    rw [delA_ne hb]
    exact x.gg b u (by rw [upd_ne hb]; exact e)
  · by_cases hb : b = a
    · subst hb; exact absurd delA_at z
    · rw [delA_ne hb] at z
      rcases x.new b z with h | h
      · rw [upd_ne hb] at h; exact .inl h
      · exact .inr h
section
variable {K : PySem.W.Frag} {H0 : Bas} {G0 H G : Hp} {σ : L2.St} {e : Env}
end
section
variable {X : Cx} {W : WX} {H0 : Bas} {G0 : Hp} {pos : Pos}
end
end DL

namespace DL
open PySem PySem.Spec PyProof.Rows L2
open PySem.Builtin.Int (intBits)

/-- a bound that range takes -/
def Rg (n : Int) : Prop := -(2 ^ 62) ≤ n ∧ n < 2 ^ 62
theorem Rg.of {n : Int} (h : -1000000000 ≤ n) (k : n ≤ 1000000000) : Rg n := ⟨by omega, by omega⟩
open Classical in
noncomputable def range1D : D → Res (List D) := fun d => match d with
  | .int n => if Rg n then .ok (rangeD 0 n) else .bad
  | _ => .bad
open Classical in
noncomputable def range2D : D → D → Res (List D) := fun d d2 => match d, d2 with
  | .int m, .int n => if Rg m ∧ Rg n then .ok (rangeD m n) else .bad
  | _, _ => .bad
@[simp] theorem range1D_int (n : Int) (h : Rg n) : range1D (.int n) = .ok (rangeD 0 n) := if_pos h
@[simp] theorem range2D_int (m n : Int) (h : Rg m) (k : Rg n) : range2D (.int m) (.int n) = .ok (rangeD m n) := if_pos ⟨h, k⟩
theorem iRange1_is (f : DL.Env → Res D) (e : DL.Env) : iRange1 f e = (f e).bind range1D := by
  unfold iRange1
  congr 1
  funext d
  cases d with
  | int n =>
    dsimp only [range1D]
    by_cases h : Rg n
    · rw [if_pos (show -(2 ^ 62) ≤ n ∧ n < 2 ^ 62 from h), if_pos h]
    · rw [if_neg (show ¬ (-(2 ^ 62) ≤ n ∧ n < 2 ^ 62) from h), if_neg h]
  | _ => rfl
theorem iRange2_is (f g : DL.Env → Res D) (e : DL.Env) : iRange2 f g e = (f e).bind fun d => (g e).bind fun d2 => range2D d d2 := by
  unfold iRange2
  congr 1
  funext d
  congr 1
  funext d2
  cases d with
  | int m =>
    cases d2 with
    | int n =>
      dsimp only [range2D]
      by_cases h : Rg m ∧ Rg n
      · rw [if_pos h, if_pos ⟨h.1.1, h.1.2, h.2.1, h.2.2⟩]
      · rw [if_neg h, if_neg fun z => h ⟨⟨z.1, z.2.1⟩, z.2.2.1, z.2.2.2⟩]
    | _ => rfl
  | _ => rfl
/-! ### a body's reckoning, step by step -/
section
variable (al : List Nat) (i : Nat) (e : DL.Env) (f fa fb fc : DL.Env → Res D) (ft fu : DL.Env → Res Bool) (g h : DL.Env → Out) (fs : DL.Env → Res (List D)) (d : D) (ds : List D) (op : D → D → Res D) (op1 : D → Res D)
@[simp] theorem eVarS_app : eVarS i e = (match e[i]? with | some (some (d, false)) => .ok d | _ => .bad) := Eq.trans rfl rfl
@[simp] theorem eVar_app : eVar i e = (match e[i]? with | some (some (d, _)) => .ok d | _ => .bad) := Eq.trans rfl rfl
@[simp] theorem eC_app : eC d e = .ok d := Eq.trans rfl rfl
@[simp] theorem eOp_app : eOp op fa fb e = (fa e).bind fun x => (fb e).bind fun y => op x y := Eq.trans rfl rfl
@[simp] theorem e1_app : e1 op1 f e = (f e).bind op1 := Eq.trans rfl rfl
@[simp] theorem eNeg_app : eNeg f e = (f e).bind fun x => (match x with | .int i => .ok (.int (-i)) | _ => .bad) := Eq.trans rfl rfl
@[simp] theorem eTup_app : eTup fs e = (fs e).bind fun ds => .ok (.tup ds) := Eq.trans rfl rfl
@[simp] theorem eLst_app : eLst fs e = (fs e).bind fun ds => .ok (.lst ds) := Eq.trans rfl rfl
@[simp] theorem aNil_app : aNil e = .ok [] := Eq.trans rfl rfl
@[simp] theorem aCons_app : aCons f fs e = (f e).bind fun d => (fs e).bind fun ds => .ok (d :: ds) := Eq.trans rfl rfl
@[simp] theorem eCall_app (F : List D → Res D) : eCall F fs e = (fs e).bind F := Eq.trans rfl rfl
@[simp] theorem eAnd_app : eAnd fa fb e = (fa e).bind fun x => (D.asB x).bind fun b => if b = true then fb e else .ok (.bl false) := Eq.trans rfl rfl
@[simp] theorem eOr_app : eOr fa fb e = (fa e).bind fun x => (D.asB x).bind fun b => if b = true then .ok (.bl true) else fb e := Eq.trans rfl rfl
@[simp] theorem eNot_app : eNot f e = (f e).bind fun x => (D.asB x).bind fun b => .ok (.bl (!b)) := Eq.trans rfl rfl
@[simp] theorem eIf_app : eIf ft fa fb e = (ft e).bind fun b => if b = true then fa e else fb e := Eq.trans rfl rfl
@[simp] theorem bTest_app : bTest op fa fb e = (fa e).bind fun x => (fb e).bind fun y => (op x y).bind D.asB := Eq.trans rfl rfl
@[simp] theorem bTruth_app : bTruth f e = (f e).bind D.truth := Eq.trans rfl rfl
@[simp] theorem bAnd_app : bAnd ft fu e = (ft e).bind fun b => if b = true then fu e else .ok false := Eq.trans rfl rfl
@[simp] theorem bOr_app : bOr ft fu e = (ft e).bind fun b => if b = true then .ok true else fu e := Eq.trans rfl rfl
@[simp] theorem bNot_app : bNot ft e = (ft e).bind fun b => .ok (!b) := Eq.trans rfl rfl
@[simp] theorem bVal_app : bVal f e = (f e).bind D.asB := Eq.trans rfl rfl
@[simp] theorem oNone_app : oNone e = .ok none := Eq.trans rfl rfl
@[simp] theorem oSome_app : oSome f e = (f e).bind fun d => (match d with | .int i => .ok (some i) | _ => .bad) := Eq.trans rfl rfl
@[simp] theorem eCut_app (fl fh : DL.Env → Res (Option Int)) : eCut f fl fh e = (f e).bind fun d => (fl e).bind fun lo => (fh e).bind fun hi => dCut lo hi d := Eq.trans rfl rfl
@[simp] theorem iSeq_app : iSeq f e = (f e).bind fun d => (match d with | .lst xs => .ok xs | .tup xs => .ok xs | .con xs => .ok xs | _ => .bad) := Eq.trans rfl rfl
@[simp] theorem iRange1_app : iRange1 f e = (f e).bind range1D := iRange1_is f e
@[simp] theorem iRange2_app : iRange2 fa fb e = (fa e).bind fun d => (fb e).bind fun d2 => range2D d d2 := iRange2_is fa fb e
@[simp] theorem iRange3_app : iRange3 fa fb fc e = (fa e).bind fun x => (fb e).bind fun y => (fc e).bind fun z => r3D x y z := Eq.trans rfl rfl
@[simp] theorem r3D_int (i j c : Int) : r3D (.int i) (.int j) (.int c) = rg3 i j c := Eq.trans rfl rfl
@[simp] theorem sTry_app (hh : String → Option Bool) : sTry hh g h e = (match g e with | .ex c fs' e' => (match hh c with | some true => noEx (h e') | some false => .ex c fs' e' | none => .bad) | r => r) := Eq.trans rfl rfl
@[simp] theorem sTryAs_app (hh : String → Option Bool) (fs : Addr → String → DL.Env → Out) : sTryAs i hh g fs e = (match g e with | .ex c fs' e' => (match hh c with | some true => if fs' = [] then unif (fun a => clrN i (fs a c (e'.set i (some (.obj (.ref a), false))))) else .bad | some false => .ex c fs' e' | none => .bad) | r => r) := Eq.trans rfl rfl
@[simp] theorem clrN_nx : clrN i (.nx e) = .nx (e.set i none) := Eq.trans rfl rfl
@[simp] theorem clrN_rt : clrN i (.rt d) = .rt d := Eq.trans rfl rfl
@[simp] theorem clrN_ro : clrN i (.ro d) = .ro d := Eq.trans rfl rfl
@[simp] theorem unif_const (r : Out) : (unif fun _ => r) = r := unif_of fun _ => rfl
@[simp] theorem eIsE_app (a : Addr) (o : Option Bool) : eIsE i a o e = (match e[i]? with | some (some (.obj (.ref a'), false)) => if a' = a then (match o with | some b => .ok (.bl b) | none => .bad) else .bad | _ => .bad) := Eq.trans rfl rfl
@[simp] theorem dStr_bl (b : Bool) : dStr (.bl b) = .ok (.str (if b = true then "True" else "False")) := Eq.trans rfl rfl
@[simp] theorem noEx_nx : noEx (.nx e) = .nx e := Eq.trans rfl rfl
@[simp] theorem noEx_rt : noEx (.rt d) = .rt d := Eq.trans rfl rfl
@[simp] theorem noEx_ro : noEx (.ro d) = .ro d := Eq.trans rfl rfl
@[simp] theorem sRetO_app : sRetO i e = (match e[i]? with | some (some (d, true)) => .ro d | some (some (d, false)) => .rt d | _ => .bad) := Eq.trans rfl rfl
@[simp] theorem sRetF_app : sRetF al f e = (match f e with | .ok d => .ro d | .exc c fs => .ex c fs (fz al e) | .bad => .bad) := by unfold sRetF sE; cases f e <;> rfl
@[simp] theorem sSkip_app : sSkip e = .nx e := Eq.trans rfl rfl
@[simp] theorem sBreak_app : sBreak e = .bk e := Eq.trans rfl rfl
@[simp] theorem sCont_app : sCont e = .ct e := Eq.trans rfl rfl
@[simp] theorem sRetN_app : sRetN e = .rt .non := Eq.trans rfl rfl
@[simp] theorem sRaise_app (c : String) : sRaise c e = .ex c [] e := Eq.trans rfl rfl
@[simp] theorem sSeq_app : sSeq g h e = (match g e with | .nx e' => h e' | r => r) := Eq.trans rfl rfl
@[simp] theorem sIf_app : sIf al ft g h e = (match ft e with | .ok b => if b = true then g (fz al e) else h (fz al e) | .exc c fs => .ex c fs (fz al e) | .bad => .bad) := by unfold sIf sE; cases ft e <;> rfl
@[simp] theorem sRet_app : sRet al f e = (match f e with | .ok d => .rt d | .exc c fs => .ex c fs (fz al e) | .bad => .bad) := by unfold sRet sE; cases f e <;> rfl
@[simp] theorem sDrop_app : sDrop al f e = (match f e with | .ok d => .nx (fz al e) | .exc c fs => .ex c fs (fz al e) | .bad => .bad) := by unfold sDrop sE; cases f e <;> rfl
@[simp] theorem sSet_app : sSet al i f e = (match f e with | .ok d => .nx ((fz al e).set i (some (d, false))) | .exc c fs => .ex c fs (fz al e) | .bad => .bad) := by unfold sSet sE; cases f e <;> rfl
@[simp] theorem sSetF_app : sSetF al i f e = (match f e with | .ok d => .nx ((fz al e).set i (some (d, true))) | .exc c fs => .ex c fs (fz al e) | .bad => .bad) := by unfold sSetF sE; cases f e <;> rfl
@[simp] theorem sAsg_app (p : Pat) : sAsg al p f e = (match f e with | .ok d => (match p.bind d (fz al e) with | .ok e' => .nx e' | _ => .bad) | .exc c fs => .ex c fs (fz al e) | .bad => .bad) := by unfold sAsg sE; cases f e <;> rfl
@[simp] theorem sPar_app (j : Nat) : sPar al i j fs e = (match fs e with | .ok ds => (match ds with | [x, y] => .nx (((fz al e).set i (some (x, false))).set j (some (y, false))) | _ => .bad) | .exc c fs => .ex c fs (fz al e) | .bad => .bad) := by unfold sPar sE; cases fs e <;> rfl
@[simp] theorem sFor_app (p : Pat) : sFor al p fs g e = (match fs e with | .ok ds => turns p g ds (fz al e) | .exc c fs => .ex c fs (fz al e) | .bad => .bad) := by unfold sFor sE; cases fs e <;> rfl
@[simp] theorem fz_cons (r : List Nat) : fz (i :: r) e = fz r (unown i e) := Eq.trans rfl rfl
@[simp] theorem unown_app : unown i e = (match e[i]? with | some (some (d, true)) => e.set i (some (d, false)) | _ => e) := Eq.trans rfl rfl
@[simp] theorem bindnm_app : Pat.bind (.nm i) d e = .ok (e.set i (some (d, false))) := Eq.trans rfl rfl
@[simp] theorem bindtp_app (ps : List Pat) : Pat.bind (.tp ps) (.tup ds) e = Pat.binds ps ds e := Eq.trans rfl rfl
@[simp] theorem binds_nil : Pat.binds [] [] e = .ok e := Eq.trans rfl rfl
@[simp] theorem binds_cons (p : Pat) (ps : List Pat) : Pat.binds (p :: ps) (d :: ds) e = (Pat.bind p d e).bind fun e' => Pat.binds ps ds e' := Eq.trans rfl rfl
@[simp] theorem asB_bl (b : Bool) : D.asB (.bl b) = .ok b := Eq.trans rfl rfl
@[simp] theorem dLt_int (i j : Int) : dLt (.int i) (.int j) = .ok (.bl (decide (i < j))) := Eq.trans rfl rfl
@[simp] theorem dLe_int (i j : Int) : dLe (.int i) (.int j) = .ok (.bl (decide (i ≤ j))) := Eq.trans rfl rfl
@[simp] theorem dGt_int (i j : Int) : dGt (.int i) (.int j) = .ok (.bl (decide (j < i))) := Eq.trans rfl rfl
@[simp] theorem dGe_int (i j : Int) : dGe (.int i) (.int j) = .ok (.bl (decide (j ≤ i))) := Eq.trans rfl rfl
@[simp] theorem dAdd_int (i j : Int) : dAdd (.int i) (.int j) = .ok (.int (i + j)) := Eq.trans rfl rfl
@[simp] theorem dSub_int (i j : Int) : dSub (.int i) (.int j) = .ok (.int (i - j)) := Eq.trans rfl rfl
@[simp] theorem dMod_int (i j : Int) : dMod (.int i) (.int j) = (if j ≠ 0 then .ok (.int (i.fmod j)) else .bad) := Eq.trans rfl rfl
@[simp] theorem dAbs_int (i : Int) : dAbs (.int i) = .ok (.int (i.natAbs : Int)) := by
  show Res.ok (D.int (if i < 0 then -i else i)) = _
  congr 2
  split <;> omega
@[simp] theorem dLen_lst : dLen (.lst ds) = .ok (.int ds.length) := Eq.trans rfl rfl
@[simp] theorem dLen_tup : dLen (.tup ds) = .ok (.int ds.length) := Eq.trans rfl rfl
@[simp] theorem dLen_con : dLen (.con ds) = .ok (.int ds.length) := Eq.trans rfl rfl
@[simp] theorem dLen_dct (t : Bool) (kvs : List (D × D)) : dLen (.dct t kvs) = .ok (.int kvs.length) := Eq.trans rfl rfl
@[simp] theorem isInt_int (i : Int) : isInt (.int i) = .ok (.bl true) := Eq.trans rfl rfl
@[simp] theorem isBool_int (i : Int) : isBool (.int i) = .ok (.bl false) := Eq.trans rfl rfl
@[simp] theorem isTup_tup : isTup (.tup ds) = .ok (.bl true) := Eq.trans rfl rfl
@[simp] theorem dTuple_lst : dTuple (.lst ds) = .ok (.tup ds) := Eq.trans rfl rfl
@[simp] theorem dTuple_tup : dTuple (.tup ds) = .ok (.tup ds) := Eq.trans rfl rfl
@[simp] theorem dList_lst : dList (.lst ds) = .ok (.lst ds) := Eq.trans rfl rfl
@[simp] theorem dList_tup : dList (.tup ds) = .ok (.lst ds) := Eq.trans rfl rfl
@[simp] theorem dMax_int (i j : Int) : dMax (.int i) (.int j) = .ok (.int (if i < j then j else i)) := Eq.trans rfl rfl
@[simp] theorem dMin_int (i j : Int) : dMin (.int i) (.int j) = .ok (.int (if j < i then j else i)) := Eq.trans rfl rfl
@[simp] theorem sMut_app (gm : List D → List D → Option (List D)) : sMut al i gm fs e = ownL i (fz al e) (fun xs => sE al fs (fun ds e' => match gm xs ds with
    | some ys => .nx (e'.set i (some (.lst ys, true)))
    | none => .bad) e) := Eq.trans rfl rfl
end
@[simp] theorem ownL_app (i : Nat) (e : DL.Env) (k : List D → Out) : ownL i e k = (match e[i]? with | some (some (.lst xs, true)) => k xs | _ => .bad) := Eq.trans rfl rfl
@[simp] theorem sE_app {α : Type} (al : List Nat) (e : DL.Env) (fa : DL.Env → Res α) (k : α → DL.Env → Out) : sE al fa k e = (match fa e with | .ok a => k a (fz al e) | .exc c fs => .ex c fs (fz al e) | .bad => .bad) := Eq.trans rfl rfl
/-! equality -/
@[simp] theorem dEq_int (i j : Int) : dEq (.int i) (.int j) = .ok (.bl (decide (i = j))) := by
  simp [dEq, D.pl, D.beq, D.py, PyData.eqv]
  exact Bool.eq_iff_iff.mpr (by simp)
@[simp] theorem dNe_int (i j : Int) : dNe (.int i) (.int j) = .ok (.bl (!decide (i = j))) := by
  simp [dNe, D.pl, D.beq, D.py, PyData.eqv]
  exact Bool.eq_iff_iff.mpr (by simp)
@[simp] theorem dAdd_lst (a b : List D) (h : a.length + b.length ≤ sizeLine) : dAdd (.lst a) (.lst b) = .ok (.lst (a ++ b)) := if_pos h
@[simp] theorem dIx_tup0 (a : D) (r : List D) : dIx (.tup (a :: r)) (.int 0) = .ok a := by simp [dIx, atI, ixN]
@[simp] theorem dIx_tup1 (a b : D) (r : List D) : dIx (.tup (a :: b :: r)) (.int 1) = .ok b := by
  have : (1 : Int) < r.length + 1 + 1 := by omega
  simp [dIx, atI, ixN, this]
theorem ixN_of {n : Nat} {i : Int} (h : -(n : Int) ≤ i) (k : i < n) : ∃ j : Nat, ixN n i = some j ∧ j < n := by
  unfold ixN
  by_cases c : 0 ≤ i
  · exact ⟨i.toNat, by rw [if_pos c, if_pos k], by omega⟩
  · exact ⟨(i + n).toNat, by rw [if_neg c, if_pos h], by omega⟩
mutual
theorem eqv_self : ∀ (d : D) (n : Nat), d.pl n = true → PyData.eqv d.py d.py = true
  | .non, _, _ => rfl
  | .bl b, _, _ => by simp [D.py, PyData.eqv]
  | .int i, _, _ => by simp [D.py, PyData.eqv]
  | .str x, _, _ => by simp [D.py, PyData.eqv]
  | .obj _, _, h => by simp [D.pl] at h
  | .dct _ _, _, h => by simp [D.pl] at h
  | .con xs, 0, h => by simp [D.pl] at h
  | .con xs, n + 1, h => by
    simp [D.py, PyData.eqv]
    exact eqvs_self xs n (by simpa [D.pl] using h)
  | .tup xs, 0, h => by simp [D.pl] at h
  | .lst xs, 0, h => by simp [D.pl] at h
  | .tup xs, n + 1, h => by
    simp [D.py, PyData.eqv]
    exact eqvs_self xs n (by simpa [D.pl] using h)
  | .lst xs, n + 1, h => by
    simp [D.py, PyData.eqv]
    exact eqvs_self xs n (by simpa [D.pl] using h)
theorem eqvs_self : ∀ (ds : List D) (n : Nat), D.pls ds n = true → PyData.eqvAll (D.pys ds) (D.pys ds) = true
  | [], _, _ => rfl
  | d :: r, n, h => by
    have h' : d.pl n = true ∧ D.pls r n = true := by simpa [D.pls] using h
    simp [D.pys, PyData.eqvAll]
    exact ⟨eqv_self d n h'.1, eqvs_self r n h'.2⟩
end
theorem pls_all {n : Nat} : ∀ {ds : List D}, (∀ d ∈ ds, d.pl n = true) → D.pls ds n = true
  | [], _ => rfl
  | d :: r, h => by
    rw [D.pls, h d List.mem_cons_self, pls_all fun x hx => h x (List.mem_cons_of_mem _ hx)]
    rfl
/-! ### sizes -/
/-- an integer of at most so many bits -/
def Sm (n : Nat) (i : Int) : Prop := i.natAbs < 2 ^ n
theorem Sm.mono {n m : Nat} {i : Int} (h : Sm n i) (k : n ≤ m) : Sm m i := Nat.lt_of_lt_of_le h (Nat.pow_le_pow_right (by decide) k)
theorem Sm.bits {n : Nat} {i : Int} : Sm n i ↔ intBits i ≤ n := by
  unfold Sm intBits
  by_cases h : i = 0
  · subst h; simp; exact Nat.two_pow_pos n
  · have h' : (i == 0) = false := by simpa using h
    rw [h']
    have : i.natAbs ≠ 0 := by omega
    rw [← Nat.log2_lt this]
    exact Iff.rfl
theorem Sm.add {n : Nat} {i j : Int} (h : Sm n i) (k : Sm n j) : Sm (n + 1) (i + j) := by
  unfold Sm at *
  rw [Nat.pow_succ]
  omega
theorem Sm.mul {n m : Nat} {i j : Int} (h : Sm n i) (k : Sm m j) : Sm (n + m) (i * j) := by
  unfold Sm at *
  rw [Int.natAbs_mul, Nat.pow_add]
  exact Nat.mul_lt_mul'' h k
theorem Sm.le {n : Nat} {i j : Int} (h : Sm n i) (k : j.natAbs ≤ i.natAbs) : Sm n j := Nat.lt_of_le_of_lt k h
theorem Sm.lg {n : Nat} {i : Int} (h : Sm n i) (k : n ≤ 8999) : i.natAbs.log2 < 9000 := by
  by_cases z : i.natAbs = 0
  · rw [z]; decide
  · rw [Nat.log2_lt z]
    exact Nat.lt_of_lt_of_le h (Nat.pow_le_pow_right (by decide) (by omega))
theorem Sm.two {n m : Nat} {i j : Int} (h : Sm n i) (k : Sm m j) (l : n + m ≤ big) : intBits i + intBits j ≤ big := Nat.le_trans (Nat.add_le_add (Sm.bits.mp h) (Sm.bits.mp k)) l
theorem dDiv_int {i j : Int} (h : j ≠ 0) (k : j.natAbs.log2 < 9000) : dDiv (.int i) (.int j) = .ok (.int (i.fdiv j)) := if_pos ⟨h, k⟩
@[simp] theorem dDiv_lit (i j : Int) (h : 0 < j) (k : j < 18446744073709551616) : dDiv (.int i) (.int j) = .ok (.int (i / j)) := by
  rw [dDiv_int (by omega) (Sm.lg (n := 64) (by unfold Sm; omega) (by decide)), Int.fdiv_eq_ediv_of_nonneg _ (by omega)]
@[simp high] theorem dMod_lit (i j : Int) (h : 0 < j) : dMod (.int i) (.int j) = .ok (.int (i % j)) := by
  rw [dMod_int, if_pos (by omega), Int.fmod_eq_emod_of_nonneg _ (by omega)]
theorem dPow_of {i j : Int} (h : 0 ≤ j ∧ (intBits i : Int) * j ≤ 2 ^ 27) : dPow (.int i) (.int j) = .ok (.int (i ^ j.toNat)) := if_pos h
@[simp] theorem pow_10_60 : dPow (.int 10) (.int 60) = .ok (.int (10 ^ 60)) := dPow_of (by decide +kernel)
@[simp] theorem pow_10_18 : dPow (.int 10) (.int 18) = .ok (.int (10 ^ 18)) := dPow_of (by decide +kernel)
@[simp] theorem pow_10_9 : dPow (.int 10) (.int 9) = .ok (.int (10 ^ 9)) := dPow_of (by decide +kernel)
@[simp] theorem pow_10_10 : dPow (.int 10) (.int 10) = .ok (.int (10 ^ 10)) := dPow_of (by decide +kernel)
/-! ### loops -/
@[simp] theorem isInt_bl (b : Bool) : isInt (.bl b) = .ok (.bl true) := Eq.trans rfl rfl
@[simp] theorem isInt_tup (ds : List D) : isInt (.tup ds) = .ok (.bl false) := Eq.trans rfl rfl
@[simp] theorem isInt_str (x : Str) : isInt (.str x) = .ok (.bl false) := Eq.trans rfl rfl
@[simp] theorem isInt_lst (ds : List D) : isInt (.lst ds) = .ok (.bl false) := Eq.trans rfl rfl
@[simp] theorem isInt_non  : isInt .non = .ok (.bl false) := Eq.trans rfl rfl
@[simp] theorem isBool_bl (b : Bool) : isBool (.bl b) = .ok (.bl true) := Eq.trans rfl rfl
@[simp] theorem isBool_tup (ds : List D) : isBool (.tup ds) = .ok (.bl false) := Eq.trans rfl rfl
@[simp] theorem isBool_str (x : Str) : isBool (.str x) = .ok (.bl false) := Eq.trans rfl rfl
@[simp] theorem isBool_lst (ds : List D) : isBool (.lst ds) = .ok (.bl false) := Eq.trans rfl rfl
@[simp] theorem isBool_non  : isBool .non = .ok (.bl false) := Eq.trans rfl rfl
@[simp] theorem isTup_int (i : Int) : isTup (.int i) = .ok (.bl false) := Eq.trans rfl rfl
@[simp] theorem isTup_bl (b : Bool) : isTup (.bl b) = .ok (.bl false) := Eq.trans rfl rfl
@[simp] theorem isTup_str (x : Str) : isTup (.str x) = .ok (.bl false) := Eq.trans rfl rfl
@[simp] theorem isTup_lst (ds : List D) : isTup (.lst ds) = .ok (.bl false) := Eq.trans rfl rfl
@[simp] theorem isTup_non  : isTup .non = .ok (.bl false) := Eq.trans rfl rfl
@[simp] theorem isStr_int (i : Int) : isStr (.int i) = .ok (.bl false) := Eq.trans rfl rfl
@[simp] theorem isStr_bl (b : Bool) : isStr (.bl b) = .ok (.bl false) := Eq.trans rfl rfl
@[simp] theorem isStr_tup (ds : List D) : isStr (.tup ds) = .ok (.bl false) := Eq.trans rfl rfl
@[simp] theorem isStr_str (x : Str) : isStr (.str x) = .ok (.bl true) := Eq.trans rfl rfl
@[simp] theorem isStr_lst (ds : List D) : isStr (.lst ds) = .ok (.bl false) := Eq.trans rfl rfl
@[simp] theorem isStr_non  : isStr .non = .ok (.bl false) := Eq.trans rfl rfl
@[simp] theorem isList_int (i : Int) : isList (.int i) = .ok (.bl false) := Eq.trans rfl rfl
@[simp] theorem isList_bl (b : Bool) : isList (.bl b) = .ok (.bl false) := Eq.trans rfl rfl
@[simp] theorem isList_tup (ds : List D) : isList (.tup ds) = .ok (.bl false) := Eq.trans rfl rfl
@[simp] theorem isList_str (x : Str) : isList (.str x) = .ok (.bl false) := Eq.trans rfl rfl
@[simp] theorem isList_lst (ds : List D) : isList (.lst ds) = .ok (.bl true) := Eq.trans rfl rfl
@[simp] theorem isList_non  : isList .non = .ok (.bl false) := Eq.trans rfl rfl
@[simp] theorem dIx_tup2 (a b c : D) (r : List D) : dIx (.tup (a :: b :: c :: r)) (.int 2) = .ok c := by
  have : (2 : Int) < r.length + 1 + 1 + 1 := by omega
  simp [dIx, atI, ixN, this]
@[simp] theorem dIx_tup3 (a b c d : D) (r : List D) : dIx (.tup (a :: b :: c :: d :: r)) (.int 3) = .ok d := by
  have : (3 : Int) < r.length + 1 + 1 + 1 + 1 := by omega
  simp [dIx, atI, ixN, this]
@[simp] theorem dEq_str (a b : Str) : dEq (.str a) (.str b) = .ok (.bl (decide (a = b))) := Eq.trans rfl rfl
@[simp] theorem dNe_str (a b : Str) : dNe (.str a) (.str b) = .ok (.bl (!decide (a = b))) := Eq.trans rfl rfl
@[simp] theorem dEq_bl (a b : Bool) : dEq (.bl a) (.bl b) = .ok (.bl (decide (a = b))) := by
  simp [dEq, D.pl, D.beq, D.py, PyData.eqv]
  cases a <;> cases b <;> rfl
@[simp] theorem dNe_bl (a b : Bool) : dNe (.bl a) (.bl b) = .ok (.bl (!decide (a = b))) := by
  simp [dNe, D.pl, D.beq, D.py, PyData.eqv]
  cases a <;> cases b <;> rfl
@[simp] theorem truth_bl (b : Bool) : D.truth (.bl b) = .ok b := Eq.trans rfl rfl
@[simp] theorem truth_int (i : Int) : D.truth (.int i) = .ok (decide (i ≠ 0)) := by
  show Res.ok (i != 0) = _
  congr 1
  exact Bool.eq_iff_iff.mpr (by simp)
end DL

namespace DL
open PySem PySem.Spec PyProof.Rows L2
open PySem.Builtin.Int (intBits)
/-! ### Euclid's loop over slots 0, 1, 2 -/
/-- the share a rational number is -/
def shr (x : Rat) : D := .tup [.int x.num, .int x.den]
theorem divInt_parts (a : Int) (b : Nat) (hb : b ≠ 0) : (Rat.divInt a b).num = a.fdiv (Nat.gcd b a.natAbs : Nat) ∧ ((Rat.divInt a b).den : Int) = (b : Int).fdiv (Nat.gcd b a.natAbs : Nat) := by
  have e : Rat.divInt a b = Rat.normalize a b hb := by
    rw [Rat.normalize_eq_mkRat]; rfl
  have : (0 : Int) ≤ (Nat.gcd b a.natAbs : Nat) := Int.natCast_nonneg _
  rw [Int.fdiv_eq_ediv_of_nonneg _ this, Int.fdiv_eq_ediv_of_nonneg _ this, Nat.gcd_comm, e, Rat.normalize_eq hb]
  exact ⟨rfl, by simp⟩
end DL

namespace DL
open PySem PySem.Spec PyProof.Rows L2
open PySem.Builtin.Int (intBits)
/-! ### shares -/
@[simp] theorem shr_0 (x : Rat) : dIx (shr x) (.int 0) = .ok (.int x.num) := by simp [shr]
@[simp] theorem shr_1 (x : Rat) : dIx (shr x) (.int 1) = .ok (.int x.den) := by simp [shr]
/-- sizes of a share -/
def SmR (n m : Nat) (x : Rat) : Prop := Sm n x.num ∧ Sm m (x.den : Int)
theorem SmR.mono {n m n' m' : Nat} {x : Rat} (h : SmR n m x) (a : n ≤ n') (b : m ≤ m') : SmR n' m' x := ⟨h.1.mono a, h.2.mono b⟩
theorem divInt_small {a : Int} {b : Nat} (hb : b ≠ 0) : (Rat.divInt a b).num.natAbs ≤ a.natAbs ∧ (Rat.divInt a b).den ≤ b := by
  obtain ⟨p1, p2⟩ := divInt_parts a b hb
  have hg : (0 : Int) ≤ (Nat.gcd b a.natAbs : Nat) := Int.natCast_nonneg _
  rw [Int.fdiv_eq_ediv_of_nonneg _ hg] at p1 p2
  constructor
  · rw [p1, Int.natAbs_ediv_of_dvd (Int.ofNat_dvd_left.mpr (Nat.gcd_dvd_right _ _))]
    simpa using Nat.div_le_self _ _
  · have : ((b : Int) / (Nat.gcd b a.natAbs : Nat)) = ((b / Nat.gcd b a.natAbs : Nat) : Int) := by simp
    rw [this] at p2
    have := Nat.div_le_self b (Nat.gcd b a.natAbs)
    omega
theorem SmR.divInt {n m : Nat} {a : Int} {b : Nat} (hb : b ≠ 0) (h : Sm n a) (k : Sm m (b : Int)) : SmR n m (Rat.divInt a b) := by
  obtain ⟨p, q⟩ := divInt_small (a := a) hb
  exact ⟨h.le p, k.le (by simpa using q)⟩
theorem divInt_add (x y : Rat) : Rat.divInt (x.num * y.den + y.num * x.den) ((x.den * y.den : Nat) : Int) = x + y := by
  have hx : (x.den : Int) ≠ 0 := by have := x.den_nz; omega
  have hy : (y.den : Int) ≠ 0 := by have := y.den_nz; omega
  have := Rat.divInt_add_divInt x.num y.num hx hy
  rw [Rat.num_divInt_den, Rat.num_divInt_den] at this
  rw [this, Int.natCast_mul]
theorem divInt_mul (x y : Rat) : Rat.divInt (x.num * y.num) ((x.den * y.den : Nat) : Int) = x * y := by
  have := Rat.divInt_mul_divInt x.num y.num (d₁ := x.den) (d₂ := y.den)
  rw [Rat.num_divInt_den, Rat.num_divInt_den] at this
  rw [this, Int.natCast_mul]
theorem den_mul_ne (x y : Rat) : x.den * y.den ≠ 0 := Nat.mul_ne_zero x.den_nz y.den_nz
theorem SmR.add {n m n' m' k : Nat} {x y : Rat} (h : SmR n m x) (q : SmR n' m' y) (a : n + m' ≤ k) (b : n' + m ≤ k) : SmR (k + 1) (m + m') (x + y) := by
  rw [← divInt_add]
  refine SmR.divInt (den_mul_ne x y) (((h.1.mul q.2).mono a).add ((q.1.mul h.2).mono b)) ?_
  rw [Int.natCast_mul]
  exact h.2.mul q.2
theorem SmR.mul {n m n' m' : Nat} {x y : Rat} (h : SmR n m x) (q : SmR n' m' y) : SmR (n + n') (m + m') (x * y) := by
  rw [← divInt_mul]
  refine SmR.divInt (den_mul_ne x y) (h.1.mul q.1) ?_
  rw [Int.natCast_mul]
  exact h.2.mul q.2
end DL

namespace DL
open PySem PySem.Spec PyProof.Rows L2
open PySem.Builtin.Int (intBits)
/-! ### powers of a pair by squarings -/
def pr (a b : Int) : D := .tup [.int a, .int b]
@[simp] theorem pr_0 (a b : Int) : dIx (pr a b) (.int 0) = .ok (.int a) := by simp [pr]
@[simp] theorem pr_1 (a b : Int) : dIx (pr a b) (.int 1) = .ok (.int b) := by simp [pr]
end DL

/-! spreads, plainly -/
namespace DL
open PySem PySem.Spec PyProof.Rows L2
open PySem.Builtin.Int (intBits)
@[simp] theorem dIxA_lst (xs : List D) (i : D) : dIxA (.lst xs) i = dIx (.lst xs) i := rfl
@[simp] theorem dIxA_tup (xs : List D) (i : D) : dIxA (.tup xs) i = dIx (.tup xs) i := rfl
@[simp] theorem dIxA_con (xs : List D) (i : D) : dIxA (.con xs) i = dIx (.con xs) i := rfl
@[simp] theorem dIxA_dct (t : Bool) (kvs : List (D × D)) (i : D) : dIxA (.dct t kvs) i = dAt (.dct t kvs) i := rfl
/-- answers: numbers only -/
def ans (k : List Int) : D := .tup (k.map D.int)
theorem ints_inj : ∀ {a b : List Int}, a.map D.int = b.map D.int → a = b
  | [], [], _ => rfl
  | [], _ :: _, h => by cases h
  | _ :: _, [], h => by cases h
  | x :: a, y :: b, h => by
    rw [List.map_cons, List.map_cons, List.cons.injEq] at h
    cases h.1
    rw [ints_inj h.2]
theorem ans_inj {a b : List Int} (h : ans a = ans b) : a = b := ints_inj (by unfold ans at h; injection h)
@[simp] theorem ans_key (k : List Int) : D.keyOk true (ans k) = true := by
  simp [ans, D.keyOk, D.isKey]
def getR (m : List (List Int × Rat)) (k : List Int) : Option Rat := (m.find? fun p => decide (p.1 = k)).map (·.2)
def putR (m : List (List Int × Rat)) (k : List Int) (x : Rat) : List (List Int × Rat) := if (m.any fun p => decide (p.1 = k)) = true then m.map (fun p => if p.1 = k then (p.1, x) else p) else m ++ [(k, x)]
/-- one more pair -/
def stepR (m : List (List Int × Rat)) (p : List Int × Rat) : List (List Int × Rat) := putR m p.1 ((getR m p.1).getD 0 + p.2)
def totR (ps : List (List Int × Rat)) (k : List Int) : Rat := ps.foldl (fun t p => if p.1 = k then t + p.2 else t) 0
theorem any_key {m : List (List Int × Rat)} {k : List Int} : (m.any fun p => decide (p.1 = k)) = true ↔ k ∈ m.map (·.1) := by
  rw [List.any_eq_true, List.mem_map]
  constructor
  · rintro ⟨p, h, e⟩; exact ⟨p, h, by simpa using e⟩
  · rintro ⟨p, h, e⟩; exact ⟨p, h, by simpa using e⟩
theorem put_keys (m : List (List Int × Rat)) (k : List Int) (x : Rat) : (putR m k x).map (·.1) = if k ∈ m.map (·.1) then m.map (·.1) else m.map (·.1) ++ [k] := by
  unfold putR
  by_cases h : k ∈ m.map (·.1)
  · rw [if_pos (any_key.mpr h), if_pos h, List.map_map]
    apply List.map_congr_left
    intro p _
    show (if p.1 = k then (p.1, x) else p).1 = p.1
    split <;> rfl
  · rw [if_neg (fun z => h (any_key.mp z)), if_neg h, List.map_append]; rfl
theorem get_some {m : List (List Int × Rat)} {k : List Int} : (getR m k).isSome = true ↔ k ∈ m.map (·.1) := by
  unfold getR
  rw [Option.isSome_map, List.find?_isSome, List.mem_map]
  constructor
  · rintro ⟨p, h, e⟩; exact ⟨p, h, by simpa using e⟩
  · rintro ⟨p, h, e⟩; exact ⟨p, h, by simpa using e⟩
theorem get_none {m : List (List Int × Rat)} {k : List Int} (h : k ∉ m.map (·.1)) : getR m k = none := by
  cases e : getR m k with
  | none => rfl
  | some x => exact absurd (get_some.mp (by rw [e]; rfl)) h
theorem put_get_self (m : List (List Int × Rat)) (k : List Int) (x : Rat) : getR (putR m k x) k = some x := by
  unfold putR
  split
  · rename_i h
    induction m with
    | nil => simp at h
    | cons p m ih =>
      unfold getR
      rw [List.map_cons, List.find?_cons]
      by_cases hp : p.1 = k
      · simp [hp]
      · simp only [if_neg hp, decide_eq_false hp]
        have h' : (m.any fun p => decide (p.1 = k)) = true := by simpa [hp] using h
        exact ih h'
  · rename_i h
    unfold getR
    rw [List.find?_append]
    have : m.find? (fun p => decide (p.1 = k)) = none := by
      cases e : m.find? (fun p => decide (p.1 = k)) with
      | none => rfl
      | some p =>
        exfalso
        apply h
        rw [List.any_eq_true]
        exact ⟨p, List.mem_of_find?_eq_some e, List.find?_some (p := fun p : List Int × Rat => decide (p.1 = k)) e⟩
    rw [this]
    simp
theorem put_get_ne {m : List (List Int × Rat)} {k j : List Int} (x : Rat) (h : j ≠ k) : getR (putR m k x) j = getR m j := by
  unfold putR
  split
  · induction m with
    | nil => rfl
    | cons p m ih =>
      unfold getR at *
      rw [List.map_cons, List.find?_cons, List.find?_cons]
      by_cases hp : p.1 = k
      · have hj : p.1 ≠ j := fun z => h (by rw [← z, hp])
        simp only [if_pos hp, decide_eq_false hj]
        rename_i hh
        by_cases h3 : (m.any fun p => decide (p.1 = k)) = true
        · exact ih h3
        · have : m.map (fun p => if p.1 = k then (p.1, x) else p) = m := by
            conv => rhs; rw [← List.map_id m]
            apply List.map_congr_left
            intro q hq
            rw [if_neg]
            · rfl
            · intro z
              apply h3
              rw [List.any_eq_true]
              exact ⟨q, hq, by simpa using z⟩
          rw [this]
      · simp only [if_neg hp]
        by_cases hj : p.1 = j
        · simp [hj]
        · simp only [decide_eq_false hj]
          rename_i hh
          exact ih (by simpa [hp] using hh)
  · unfold getR
    rw [List.find?_append]
    cases m.find? (fun p => decide (p.1 = j)) with
    | some p => rfl
    | none => simp [Ne.symm h]
/-- what the sums are after so many pairs -/
structure SumsOf (m ps : List (List Int × Rat)) : Prop where
  nd : (m.map (·.1)).Nodup
  ks : ∀ k, k ∈ m.map (·.1) ↔ k ∈ ps.map (·.1)
  gt : ∀ k, k ∈ ps.map (·.1) → getR m k = some (totR ps k)
  ln : m.length ≤ ps.length
theorem tot_snoc (ps : List (List Int × Rat)) (p : List Int × Rat) (k : List Int) : totR (ps ++ [p]) k = if p.1 = k then totR ps k + p.2 else totR ps k := by
  unfold totR
  rw [List.foldl_append]
  rfl
theorem tot_none {ps : List (List Int × Rat)} {k : List Int} (h : k ∉ ps.map (·.1)) : totR ps k = 0 := by
  unfold totR
  have gen : ∀ (ps : List (List Int × Rat)) (t : Rat), k ∉ ps.map (·.1) → ps.foldl (fun t p => if p.1 = k then t + p.2 else t) t = t := by
    intro ps
    induction ps with
    | nil => intro t _; rfl
    | cons p ps ih =>
      intro t h
      rw [List.map_cons, List.mem_cons] at h
      rw [List.foldl_cons, if_neg (fun z => h (.inl z.symm))]
      exact ih t fun z => h (.inr z)
  exact gen ps 0 h
theorem SumsOf.step {m ps : List (List Int × Rat)} (S : SumsOf m ps) (p : List Int × Rat) : SumsOf (stepR m p) (ps ++ [p]) := by
  have hk := put_keys m p.1 ((getR m p.1).getD 0 + p.2)
  have ht : (getR m p.1).getD 0 = totR ps p.1 := by
    by_cases h : p.1 ∈ ps.map (·.1)
    · rw [S.gt _ h]; rfl
    · rw [get_none (fun z => h ((S.ks _).mp z)), tot_none h]; rfl
  refine ⟨?_, fun k => ?_, fun k h => ?_, ?_⟩
  · unfold stepR
    rw [hk]
    split
    · exact S.nd
    · rename_i h
      rw [List.nodup_append]
      refine ⟨S.nd, by simp, ?_⟩
      intro a ha b hb
      rw [List.mem_singleton] at hb
      subst hb
      intro e
      subst e
      exact h ha
  · unfold stepR
    rw [hk, List.map_append, List.mem_append, ← S.ks k]
    split
    · rename_i h
      constructor
      · exact .inl
      · rintro (z | z)
        · exact z
        · rw [show k = p.1 by simpa using z]; exact h
    · rw [List.mem_append]; rfl
  · rw [tot_snoc]
    unfold stepR
    by_cases e : p.1 = k
    · subst e
      rw [put_get_self, ht, if_pos rfl]
    · rw [put_get_ne _ (Ne.symm e), if_neg e]
      rw [List.map_append, List.mem_append] at h
      rcases h with z | z
      · exact S.gt _ z
      · exact absurd (by simpa using z : k = p.1).symm e
  · have := congrArg List.length hk
    rw [List.length_map] at this
    unfold stepR
    rw [this, List.length_append]
    have l := S.ln
    split
    · rw [List.length_map]; simp; omega
    · rw [List.length_append, List.length_map]; simp; omega
theorem SumsOf.nil : SumsOf [] [] := ⟨List.nodup_nil, fun k => Iff.rfl, fun k h => absurd h List.not_mem_nil, Nat.le_refl _⟩
theorem SumsOf.all : ∀ (qs : List (List Int × Rat)) {m ps : List (List Int × Rat)}, SumsOf m ps → SumsOf (qs.foldl stepR m) (ps ++ qs)
  | [], m, ps, S => by rw [List.append_nil]; exact S
  | q :: qs, m, ps, S => by
    have := SumsOf.all qs (S.step q)
    rw [List.append_assoc] at this
    exact this
/-! ### order of answers -/
def lexB : List Int → List Int → Bool
  | [], [] => false
  | [], _ :: _ => true
  | _ :: _, [] => false
  | x :: r, y :: t => decide (x < y) || (!decide (y < x) && lexB r t)
theorem lt_ans : ∀ (a b : List Int), D.lt (ans a) (ans b) = lexB a b := by
  have gen : ∀ (a b : List Int), PyProof.Rows.lexLt itemOrd (PySem.W.keyToksAll (D.pys (a.map D.int))) (PySem.W.keyToksAll (D.pys (b.map D.int))) = lexB a b := by
    intro a
    induction a with
    | nil =>
      intro b
      cases b with
      | nil => simp [D.pys, PySem.W.keyToksAll, lexB]; decide
      | cons y b =>
        simp only [List.map_nil, List.map_cons, D.pys, PySem.W.keyToksAll, lexB]
        rw [PyProof.Rows.lex_cons]
        show (decide ((0 : Int) < 1) || _) = true
        simp
    | cons x a ih =>
      intro b
      cases b with
      | nil =>
        simp only [List.map_nil, List.map_cons, D.pys, PySem.W.keyToksAll, lexB]
        rw [PyProof.Rows.lex_cons]
        show (decide ((1 : Int) < 0) || (!decide ((0 : Int) < 1) && _)) = false
        simp
      | cons y b =>
        simp only [List.map_cons, D.pys, D.py, PySem.W.keyToksAll, PySem.W.keyToks, lexB, List.cons_append, List.nil_append]
        rw [PyProof.Rows.lex_cons, PyProof.Rows.lex_cons, ih b]
        show (decide ((1 : Int) < 1) || (!decide ((1 : Int) < 1) && (decide (x < y) || (!decide (y < x) && lexB a b)))) = _
        simp
  intro a b
  exact gen a b
def leB (a b : List Int) : Bool := !lexB b a
theorem le_ans (a b : List Int) : D.le (ans a) (ans b) = leB a b := by
  unfold D.le leB
  rw [lt_ans]
theorem lexB_irr : ∀ a, lexB a a = false
  | [] => rfl
  | x :: r => by simp [lexB, lexB_irr r]
theorem lexB_trans : ∀ {a b c : List Int}, lexB a b = true → lexB b c = true → lexB a c = true
  | [], [], _, h, _ => by cases h
  | [], _ :: _, [], _, h => by simp [lexB] at h
  | [], _ :: _, _ :: _, _, _ => rfl
  | _ :: _, [], _, h, _ => by simp [lexB] at h
  | _ :: _, _ :: _, [], _, h => by simp [lexB] at h
  | x :: a, y :: b, z :: c, h, k => by
    simp only [lexB, Bool.or_eq_true, decide_eq_true_eq, Bool.and_eq_true, Bool.not_eq_true', decide_eq_false_iff_not] at *
    rcases h with h | ⟨h, h2⟩ <;> rcases k with k | ⟨k, k2⟩
    · exact .inl (by omega)
    · exact .inl (by omega)
    · exact .inl (by omega)
    · exact .inr ⟨by omega, lexB_trans h2 k2⟩
theorem lexB_tri : ∀ {a b : List Int}, lexB a b = false → lexB b a = false → a = b
  | [], [], _, _ => rfl
  | [], _ :: _, h, _ => by simp [lexB] at h
  | _ :: _, [], _, h => by simp [lexB] at h
  | x :: a, y :: b, h, k => by
    simp only [lexB, Bool.or_eq_false_iff, decide_eq_false_iff_not, Bool.and_eq_false_iff, Bool.not_eq_false', decide_eq_true_eq] at *
    have e : x = y := by omega
    subst e
    have h2 : lexB a b = false := h.2.resolve_left (by omega)
    have k2 : lexB b a = false := k.2.resolve_left (by omega)
    rw [lexB_tri h2 k2]
theorem leB_trans (a b c : List Int) (h : leB a b = true) (k : leB b c = true) : leB a c = true := by
  unfold leB at *
  simp only [Bool.not_eq_true'] at *
  cases e : lexB c a with
  | false => rfl
  | true =>
    exfalso
    cases f : lexB b c with
    | true => rw [lexB_trans f e] at h; cases h
    | false =>
      have := lexB_tri f k
      subst this
      rw [e] at h; cases h
theorem leB_total (a b : List Int) : (leB a b || leB b a) = true := by
  unfold leB
  cases e : lexB a b with
  | false => simp
  | true =>
    cases f : lexB b a with
    | false => simp
    | true => have := lexB_trans e f; rw [lexB_irr] at this; cases this
def sortK (ks : List (List Int)) : List (List Int) := ks.mergeSort leB
theorem sortK_mem {ks : List (List Int)} {k : List Int} : k ∈ sortK ks ↔ k ∈ ks := List.mem_mergeSort
theorem sortD_ans (ks : List (List Int)) : sortD (ks.map ans) = (sortK ks).map ans := by
  unfold sortD sortK
  rw [List.map_mergeSort]
  intro a _ b _
  exact (le_ans a b).symm
theorem ints_pl (n : Nat) (k : List Int) : D.pls (k.map D.int) n = true := pls_all fun d hd => by
  obtain ⟨i, _, rfl⟩ := List.mem_map.mp hd
  rfl
theorem ans_pl (k : List Int) (n : Nat) : (ans k).pl (n + 1) = true := ints_pl n k
theorem ans_alike : ∀ (a b : List Int), PySem.W.alike (ans a).py (ans b).py = true := by
  have gen : ∀ (a b : List Int), PySem.W.alikeAll (D.pys (a.map D.int)) (D.pys (b.map D.int)) = true := by
    intro a
    induction a with
    | nil => intro b; cases b <;> simp [D.pys, PySem.W.alikeAll]
    | cons x a ih =>
      intro b
      cases b with
      | nil => simp [D.pys, PySem.W.alikeAll]
      | cons y b => simp only [List.map_cons, D.pys, D.py, PySem.W.alikeAll, PySem.W.alike, ih b]; rfl
  intro a b
  exact gen a b
theorem sortOk_ans {ks : List (List Int)} (h : ks.length ≤ sizeLine) : SortOk (ks.map ans) := by
  refine ⟨by rw [List.length_map]; exact h, ?_, ?_, .inl ?_⟩
  · intro x hx; obtain ⟨k, _, rfl⟩ := List.mem_map.mp hx; exact ans_pl k 49
  · intro x hx y hy
    obtain ⟨k, _, rfl⟩ := List.mem_map.mp hx
    obtain ⟨j, _, rfl⟩ := List.mem_map.mp hy
    exact ans_alike k j
  · intro x hx; obtain ⟨k, _, rfl⟩ := List.mem_map.mp hx; exact ⟨_, rfl⟩
/-! ### comprehensions -/
/-! ### spreads -/
def spPairD (p : List Int × Rat) : D := .tup [ans p.1, shr p.2]
/-! ### dicts, step by step -/
@[simp] theorem ownD_app (i : Nat) (e : DL.Env) (k : Bool → List (D × D) → Out) : ownD i e k = (match e[i]? with | some (some (.dct t kvs, true)) => k t kvs | _ => .bad) := Eq.trans rfl rfl
@[simp] theorem sPutD_app (al : List Nat) (i : Nat) (fk fv : DL.Env → Res D) (e : DL.Env) : sPutD al i fk fv e = ownD i (fz al e) fun t kvs => sE al (fun e => (fv e).bind fun v => (fk e).bind fun k => .ok (k, v)) (fun kv e' =>
  if D.keyOk t kv.1 = true ∧ kvs.length < sizeLine then .nx (e'.set i (some (.dct t (dSet kvs kv.1 kv.2), true))) else .bad) e := Eq.trans rfl rfl
@[simp] theorem eGet2_app (fa fb fc : DL.Env → Res D) (e : DL.Env) : eGet2 fa fb fc e = (fa e).bind fun d => match d with
  | .dct t kvs => (fb e).bind fun k => (fc e).bind fun x => dGet2 (.dct t kvs) k x
  | _ => .bad := Eq.trans rfl rfl
@[simp] theorem eDNew_app (t : Bool) (e : DL.Env) : eDNew t e = .ok (.dct t []) := Eq.trans rfl rfl
/-! ### falling shares come to one -/
@[simp] theorem sPutL_app (al : List Nat) (i : Nat) (fk fv : DL.Env → Res D) (e : DL.Env) : sPutL al i fk fv e = ownL i (fz al e) fun xs => sE al (fun e => (fv e).bind fun v => (fk e).bind fun k => .ok (k, v)) (fun kv e' => match kv.1 with
  | .int k => match ixN xs.length k with
    | some j => .nx (e'.set i (some (.lst (xs.set j kv.2), true)))
    | none => .bad
  | _ => .bad) e := Eq.trans rfl rfl
@[simp] theorem bind_sp (ps : List Pat) (p : List Int × Rat) (e : DL.Env) : Pat.bind (.tp ps) (spPairD p) e = Pat.binds ps [ans p.1, shr p.2] e := Eq.trans rfl rfl
@[simp] theorem sp_0 (p : List Int × Rat) : dIx (spPairD p) (.int 0) = .ok (ans p.1) := dIx_tup0 _ _
@[simp] theorem sp_1 (p : List Int × Rat) : dIx (spPairD p) (.int 1) = .ok (shr p.2) := dIx_tup1 _ _ _
@[simp] theorem ans_0 (a : Int) (r : List Int) : dIx (ans (a :: r)) (.int 0) = .ok (.int a) := dIx_tup0 _ _
theorem ints_of : ∀ ns : List Int, D.ints (ns.map D.int) = some ns
  | [] => rfl
  | n :: r => by show (D.ints (r.map D.int)).map _ = _; rw [ints_of r]; rfl
@[simp] theorem dSum_ints (ns : List Int) : dSum (.lst (ns.map D.int)) = .ok (.int ns.sum) := by
  show (match D.ints (ns.map D.int) with | some ns => Res.ok (D.int ns.sum) | none => .bad) = _
  rw [ints_of]
/-- places and numbers -/
def natL (ws : List Nat) : List D := ws.map fun (w : Nat) => D.int (w : Int)
theorem natL_ints (ws : List Nat) : natL ws = (ws.map fun (w : Nat) => (w : Int)).map D.int := by
  unfold natL
  rw [List.map_map]; rfl
theorem nat_sum : ∀ ws : List Nat, (ws.map fun (w : Nat) => (w : Int)).sum = ((ws.sum : Nat) : Int)
  | [] => rfl
  | w :: r => by rw [List.map_cons, List.sum_cons, List.sum_cons, nat_sum r, Int.natCast_add]
@[simp] theorem dSum_nats (ws : List Nat) : dSum (.lst (natL ws)) = .ok (.int (ws.sum : Nat)) := by
  rw [natL_ints, dSum_ints, nat_sum]
end DL

/-! dicts of any keys, plainly -/
namespace DL
open PySem PySem.Spec PyProof.Rows L2
open PySem.Builtin.Int (intBits)
section
variable {α β : Type} [DecidableEq α] {f : α → D} {g : β → D}
def getG (m : List (α × β)) (k : α) : Option β := (m.find? fun p => decide (p.1 = k)).map (·.2)
def putG (m : List (α × β)) (k : α) (x : β) : List (α × β) := if (m.any fun p => decide (p.1 = k)) = true then m.map (fun p => if p.1 = k then (p.1, x) else p) else m ++ [(k, x)]
theorem any_keyG {m : List (α × β)} {k : α} : (m.any fun p => decide (p.1 = k)) = true ↔ k ∈ m.map (·.1) := by
  rw [List.any_eq_true, List.mem_map]
  constructor
  · rintro ⟨p, h, e⟩; exact ⟨p, h, by simpa using e⟩
  · rintro ⟨p, h, e⟩; exact ⟨p, h, by simpa using e⟩
theorem put_keysG (m : List (α × β)) (k : α) (x : β) : (putG m k x).map (·.1) = if k ∈ m.map (·.1) then m.map (·.1) else m.map (·.1) ++ [k] := by
  unfold putG
  by_cases h : k ∈ m.map (·.1)
  · rw [if_pos (any_keyG.mpr h), if_pos h, List.map_map]
    apply List.map_congr_left
    intro p _
    show (if p.1 = k then (p.1, x) else p).1 = p.1
    split <;> rfl
  · rw [if_neg (fun z => h (any_keyG.mp z)), if_neg h, List.map_append]; rfl
theorem get_someG {m : List (α × β)} {k : α} : (getG m k).isSome = true ↔ k ∈ m.map (·.1) := by
  unfold getG
  rw [Option.isSome_map, List.find?_isSome, List.mem_map]
  constructor
  · rintro ⟨p, h, e⟩; exact ⟨p, h, by simpa using e⟩
  · rintro ⟨p, h, e⟩; exact ⟨p, h, by simpa using e⟩
theorem get_noneG {m : List (α × β)} {k : α} (h : k ∉ m.map (·.1)) : getG m k = none := by
  cases e : getG m k with
  | none => rfl
  | some x => exact absurd (get_someG.mp (by rw [e]; rfl)) h
theorem put_get_selfG (m : List (α × β)) (k : α) (x : β) : getG (putG m k x) k = some x := by
  unfold putG
  split
  · rename_i h
    induction m with
    | nil => simp at h
    | cons p m ih =>
      unfold getG
      rw [List.map_cons, List.find?_cons]
      by_cases hp : p.1 = k
      · simp [hp]
      · simp only [if_neg hp, decide_eq_false hp]
        have h' : (m.any fun p => decide (p.1 = k)) = true := by simpa [hp] using h
        exact ih h'
  · rename_i h
    unfold getG
    rw [List.find?_append]
    have : m.find? (fun p => decide (p.1 = k)) = none := by
      cases e : m.find? (fun p => decide (p.1 = k)) with
      | none => rfl
      | some p =>
        exfalso
        apply h
        rw [List.any_eq_true]
        exact ⟨p, List.mem_of_find?_eq_some e, List.find?_some (p := fun p : α × β => decide (p.1 = k)) e⟩
    rw [this]
    simp
theorem put_get_neG {m : List (α × β)} {k j : α} (x : β) (h : j ≠ k) : getG (putG m k x) j = getG m j := by
  unfold putG
  split
  · induction m with
    | nil => rfl
    | cons p m ih =>
      unfold getG at *
      rw [List.map_cons, List.find?_cons, List.find?_cons]
      by_cases hp : p.1 = k
      · have hj : p.1 ≠ j := fun z => h (by rw [← z, hp])
        simp only [if_pos hp, decide_eq_false hj]
        rename_i hh
        by_cases h3 : (m.any fun p => decide (p.1 = k)) = true
        · exact ih h3
        · have : m.map (fun p => if p.1 = k then (p.1, x) else p) = m := by
            conv => rhs; rw [← List.map_id m]
            apply List.map_congr_left
            intro q hq
            rw [if_neg]
            · rfl
            · intro z
              apply h3
              rw [List.any_eq_true]
              exact ⟨q, hq, by simpa using z⟩
          rw [this]
      · simp only [if_neg hp]
        by_cases hj : p.1 = j
        · simp [hj]
        · simp only [decide_eq_false hj]
          rename_i hh
          exact ih (by simpa [hp] using hh)
  · unfold getG
    rw [List.find?_append]
    cases m.find? (fun p => decide (p.1 = j)) with
    | some p => rfl
    | none => simp [Ne.symm h]

theorem putG_len (m : List (α × β)) (k : α) (x : β) : (putG m k x).length ≤ m.length + 1 := by
  have e := congrArg List.length (put_keysG m k x)
  rw [List.length_map] at e
  rw [e]
  split
  · rw [List.length_map]; omega
  · rw [List.length_append, List.length_map]; exact Nat.le_refl _
end
/-- so many times each -/
def bumpG {α : Type} [DecidableEq α] (m : List (α × Nat)) (k : α) : List (α × Nat) := putG m k ((getG m k).getD 0 + 1)
def timesG {α : Type} [DecidableEq α] (k : α) (l : List α) : Nat := (l.filter fun x => decide (x = k)).length
structure CountsOf {α : Type} [DecidableEq α] (m : List (α × Nat)) (l : List α) : Prop where
  nd : (m.map (·.1)).Nodup
  ks : ∀ k, k ∈ m.map (·.1) ↔ k ∈ l
  gt : ∀ k, (getG m k).getD 0 = timesG k l
  sm : ∀ k, k ∈ l → getG m k = some (timesG k l)
  ln : m.length ≤ l.length
theorem CountsOf.nil {α : Type} [DecidableEq α] : CountsOf ([] : List (α × Nat)) [] := ⟨List.nodup_nil, fun k => Iff.rfl, fun k => rfl, fun k h => absurd h List.not_mem_nil, Nat.le_refl _⟩
theorem timesG_snoc {α : Type} [DecidableEq α] (k x : α) (l : List α) : timesG k (l ++ [x]) = timesG k l + if x = k then 1 else 0 := by
  unfold timesG
  rw [List.filter_append, List.length_append]
  by_cases h : x = k
  · simp [h]
  · simp [h]
theorem CountsOf.step {α : Type} [DecidableEq α] {m : List (α × Nat)} {l : List α} (S : CountsOf m l) (x : α) : CountsOf (bumpG m x) (l ++ [x]) := by
  have hk := put_keysG m x ((getG m x).getD 0 + 1)
  have g1 : ∀ k, getG (bumpG m x) k = if x = k then some (timesG k l + 1) else getG m k := fun k => by
    unfold bumpG
    by_cases e : x = k
    · subst e
      rw [put_get_selfG, if_pos rfl, S.gt]
    · rw [put_get_neG _ (Ne.symm e), if_neg e]
  refine ⟨?_, fun k => ?_, fun k => ?_, fun k h => ?_, ?_⟩
  · unfold bumpG
    rw [hk]
    split
    · exact S.nd
    · rename_i h
      rw [List.nodup_append]
      refine ⟨S.nd, by simp, ?_⟩
      intro a ha b hb
      rw [List.mem_singleton] at hb
      subst hb
      intro e
      subst e
      exact h ha
  · unfold bumpG
    rw [hk, List.mem_append, List.mem_singleton, ← S.ks k]
    split
    · rename_i h
      exact ⟨.inl, fun z => z.elim id fun e => e ▸ h⟩
    · rw [List.mem_append, List.mem_singleton]
  · rw [g1, timesG_snoc]
    split
    · rfl
    · rw [S.gt]; rfl
  · rw [g1, timesG_snoc]
    split
    · rfl
    · rename_i e
      rw [List.mem_append, List.mem_singleton] at h
      rw [S.sm k (h.resolve_right fun z => e z.symm)]
      rfl
  · have := putG_len m x ((getG m x).getD 0 + 1)
    have l' := S.ln
    rw [List.length_append]
    show (putG m x _).length ≤ l.length + 1
    omega
/-! ### sorted numbers -/
end DL

/-! rows of numbers, plainly -/
namespace DL
open PySem PySem.Spec PyProof.Rows L2
open PySem.Builtin.Int (intBits)
theorem beq_ans (a b : List Int) : D.beq (ans a) (ans b) = decide (a = b) := by
  have gen : ∀ (a b : List Int), PyData.eqvAll (D.pys (a.map D.int)) (D.pys (b.map D.int)) = decide (a = b) := by
    intro a
    induction a with
    | nil => intro b; cases b <;> simp [D.pys, PyData.eqvAll]
    | cons x a ih =>
      intro b
      cases b with
      | nil => simp [D.pys, PyData.eqvAll]
      | cons y b =>
        simp only [List.map_cons, D.pys, D.py, PyData.eqvAll, ih b]
        show (PyData.eqv (.int x) (.int y) && decide (a = b)) = _
        have e : PyData.eqv (.int x) (.int y) = decide (x = y) := by
          simp [PyData.eqv]
          exact Bool.eq_iff_iff.mpr (by simp)
        rw [e]
        by_cases h1 : x = y <;> by_cases h2 : a = b <;> simp [h1, h2]
  show PyData.eqv (.tuple (D.pys (a.map D.int))) (.tuple (D.pys (b.map D.int))) = _
  rw [PyData.eqv]
  exact gen a b
def rowsD (L : List (List Int)) : List D := L.map ans
theorem rows_pl (L : List (List Int)) (n : Nat) : D.pls (rowsD L) (n + 1) = true := pls_all fun d hd => by
  obtain ⟨k, _, rfl⟩ := List.mem_map.mp hd
  exact ans_pl k n
/-! ### how many stand in the one and not in the other -/
section
variable {α : Type} [DecidableEq α]
end
end DL

/-! rows of numbers, sorted -/
namespace DL
open PySem PySem.Spec PyProof.Rows L2
theorem leB_anti {a b : List Int} (h : leB a b = true) (k : leB b a = true) : a = b := by
  unfold leB at h k
  exact lexB_tri (by simpa using k) (by simpa using h)
theorem sortK_up (L : List (List Int)) : (sortK L).Pairwise (fun a b => leB a b = true) := List.pairwise_mergeSort (fun a b c h k => leB_trans a b c h k) (fun a b => leB_total a b) L
theorem sortK_perm (L : List (List Int)) : (sortK L).Perm L := List.mergeSort_perm L leB
theorem sortK_ext {L M : List (List Int)} (p : L.Perm M) : sortK L = sortK M :=
  List.Perm.eq_of_pairwise (le := fun a b => leB a b = true) (fun a b _ _ h k => leB_anti h k) (sortK_up L) (sortK_up M) (((sortK_perm L).trans p).trans (sortK_perm M).symm)
theorem sortK_id {L : List (List Int)} (h : L.Pairwise (fun a b => leB a b = true)) : sortK L = L :=
  List.Perm.eq_of_pairwise (le := fun a b => leB a b = true) (fun a b _ _ h k => leB_anti h k) (sortK_up L) h (sortK_perm L)
theorem sortK_two (L : List (List Int)) : sortK (sortK L) = sortK L := sortK_id (sortK_up L)
theorem sortK_len (L : List (List Int)) : (sortK L).length = L.length := (sortK_perm L).length_eq
theorem sorted_rows {L : List (List Int)} (h : L.length ≤ sizeLine) {d : D} (hd : d.items = some (rowsD L)) : dSorted d = .ok (.lst (rowsD (sortK L))) := by
  unfold dSorted
  rw [hd]
  dsimp only
  unfold rowsD
  rw [if_pos (sortOk_ans h), sortD_ans]
end DL

/-! sorted(set(t)), t a tuple of rows of numbers with fewer than 64 unlike ones -/
namespace DL
open PySem PySem.Spec PyProof.Rows L2
section
variable {P : Program} {w : World} {A : Around} {E : Value → Shared → Prop} {s : Shared} {a : Addr} {L : List (Addr × List Int)} {es : Array (Int × Value)} {ep : Nat} {t : SetTable}
theorem add_old (R : SetTR P w s.heap a L es ep t) {x : Addr} {k : List Int} (hx : IsT P w s.heap k x) (hu : A.units < cLine) (hm : k ∈ L.map (·.2)) {Q : Bool → Shared → Prop} (hQ : Q false s) :
    wpAny (model P w) A (setAddHashed a (.ref x) (thash P w k)) Q E s := by
  obtain ⟨o, ho, hex, hd⟩ := R.ob
  unfold setAddHashed
  refine wpAny_holding ?_
  rw [show (100000 : Nat) = 99999 + 1 from rfl, setAddHashedIn_succ]
  refine wpAny_bind (wpAny_setState_of ho hd R.fits ?_)
  dsimp only
  refine wp_if_neg (by simp [byScan, Value.scannable]) ?_
  try refine wpAny_bind (wpAny_pure ?_)
  refine wpAny_bind (search_at R hx hu (fun _ => ?_) fun K hn _ _ => absurd hm hn)
  dsimp only
  exact wpAny_pure hQ
/-- fewer than 64 unlike ones -/
def Few (ks : List (Addr × List Int)) : Prop := ∀ l : List (List Int), l.Nodup → (∀ k ∈ l, k ∈ ks.map (·.2)) → l.length < 64
theorem set_walkT {I : Addr} {fp wr : List Addr} {G : Array GenState → Array GenState → Prop} {n : Nat} {Pv : Nat → Value → Prop} {St : Nat → Shared → Prop} {R : Result → Shared → Prop}
    (W : WalksS P w A.in1 I fp wr G n Pv St) (T : Addr) (off : T ∉ fp) (ks : List (Addr × List Int)) (hn : n = ks.length) (few : Few ks) (hv : ∀ i v, Pv i v → ∃ p, ks[i]? = some p ∧ v = .ref p.1)
    (h0 : Heap) (hk : ∀ p ∈ ks, IsT P w h0 p.2 p.1) (h0T : h0.get? T = none) (h0w : ∀ b ∈ wr, h0.get? b = none) (hu : A.in1.units < cLine) :
    ∀ (m i : Nat) (s : Shared), n - i = m → i ≤ n → St i s → (∀ b o, h0.get? b = some o → s.heap.get? b = some o) → (∃ L es ep t, SetTR P w s.heap T L es ep t ∧ Got ks i L) →
      (∀ s' L es ep t, Moved (T :: wr) G s s' → SetTR P w s'.heap T L es ep t → Got ks n L → (∀ b o, h0.get? b = some o → s'.heap.get? b = some o) → R (.ok (.ret .none)) s') →
      codeAny (model P w) A (.builtin "set.update.loop" ⟨[.ref T, .ref I], []⟩) R s := by
  have toff : T ∉ wr := fun z => off (W.sub _ z)
  have more : ∀ b ∈ wr, b ∈ T :: wr := fun b z => List.mem_cons_of_mem _ z
  have old : ∀ {s s' : Shared}, Moved wr G s s' → (∀ b o, h0.get? b = some o → s.heap.get? b = some o) → ∀ b o, h0.get? b = some o → s'.heap.get? b = some o := fun mv kp b o e =>
    mv.heap b o (fun z => by rw [h0w b z] at e; cases e) (kp b o e)
  intro m
  induction m with
  | zero =>
    rintro i s em hi st kp ⟨L, es, ep, t, g, got⟩ fin
    obtain rfl : i = n := by omega
    refine codeAny_builtin PyProof.Rows.F.entry_set_update_loop ?_
    rw [Around.under_plainId PyProof.Rows.F.plain_set_update_loop _]
    show wpAny _ A.in1 (pyNext (.ref I) >>= _) _ _ s
    refine wpAny_bind (W.done s _ _ st fun s' mv => ?_)
    show wpAny _ A.in1 (ret Value.none) _ _ s'
    have kp' := old mv kp
    exact wpAny_pure (fin s' L es ep t (mv.mono more) (g.keep (fun o e => mv.heap T o toff e) fun p hp => isT_keep (hk p (List.mem_of_mem_take (got.sub p hp))) kp') got kp')
  | succ m ih =>
    rintro i s em hi st kp ⟨L, es, ep, t, g, got⟩ fin
    have lt : i < n := by omega
    refine codeAny_builtin PyProof.Rows.F.entry_set_update_loop ?_
    rw [Around.under_plainId PyProof.Rows.F.plain_set_update_loop _]
    show wpAny _ A.in1 (pyNext (.ref I) >>= _) _ _ s
    refine wpAny_bind (W.item i s _ _ lt st fun v s' pv st' mv => ?_)
    obtain ⟨p, ep1, rfl⟩ := hv i v pv
    have kp' := old mv kp
    have g' : SetTR P w s'.heap T L es ep t := g.keep (fun o e => mv.heap T o toff e) fun q hq => isT_keep (hk q (List.mem_of_mem_take (got.sub q hq))) kp'
    have hx : IsT P w s'.heap p.2 p.1 := isT_keep (hk p (List.mem_of_getElem? ep1)) kp'
    show wpAny _ A.in1 (holding [Value.ref p.1] (setAdd T (.ref p.1)) >>= _) _ _ s'
    refine wpAny_bind (wpAny_holding ?_)
    unfold setAdd
    refine wpAny_holding (wpAny_bind (wpAny_pyHash_tuple hu hx ?_))
    have go : ∀ (b : Bool) (h' : Heap) L' es' ep' t', Heap.SameBut T s'.heap h' → SetTR P w h' T L' es' ep' t' → Got ks (i + 1) L' → codeAny (model P w) A (.builtin "set.update.loop" ⟨[.ref T, .ref I], []⟩) R { s' with heap := h', toks := s'.toks + (p.2.length + 1) } := fun b h' L' es' ep' t' sb g2 got2 => by
      have kp2 : ∀ b o, h0.get? b = some o → h'.get? b = some o := fun b o e => (sb.2 b (fun z => by rw [z, h0T] at e; cases e)).trans (kp' b o e)
      refine ih (i + 1) _ (by omega) lt (W.frame _ s' _ _ st' (Nat.le_add_right _ _) fun b hb o e => ?_) kp2 ⟨L', es', ep', t', g2, got2⟩ fun s2 L2 es2 ep2 t2 mv2 g3 got3 kp3 => ?_
      · rw [sb.2 b (fun z : b = T => off (by rw [← z]; exact hb))]; exact e
      · refine fin s2 L2 es2 ep2 t2 (Moved.trans W.gtrans ((mv.mono more).then_heap (Nat.le_add_right _ _) fun b o hb e => ?_) mv2) g3 got3 kp3
        rw [sb.2 b (fun z : b = T => hb (by rw [z]; exact List.mem_cons_self))]; exact e
    by_cases c : p.2 ∈ L.map (·.2)
    · refine add_old (s := { s' with toks := s'.toks + (p.2.length + 1) }) g' hx hu c ?_
      refine wpAny_pure ⟨plainId_quiet PyProof.Rows.F.plain_set_update_loop _, ?_⟩
      have := go false s'.heap L es ep t (Heap.SameBut.refl T s'.heap) g' (got.same ep1 c)
      exact this
    · have nd : (p.2 :: L.map (·.2)).Nodup := List.nodup_cons.mpr ⟨c, g'.nd⟩
      have fw := few _ nd fun k hk' => by
        rcases List.mem_cons.mp hk' with e | hk'
        · rw [e]; exact List.mem_map.mpr ⟨p, List.mem_of_getElem? ep1, rfl⟩
        · obtain ⟨q, hq, e⟩ := List.mem_map.mp hk'
          exact List.mem_map.mpr ⟨q, List.mem_of_mem_take (got.sub q hq), e⟩
      rw [List.length_cons, List.length_map] at fw
      refine add_at (s := { s' with toks := s'.toks + (p.2.length + 1) }) g' hx hu fw fun b h' L' es' ep' t' sb g2 c1 c2 => ?_
      refine wpAny_pure ⟨plainId_quiet PyProof.Rows.F.plain_set_update_loop _, ?_⟩
      exact go b h' L' es' ep' t' sb g2 (got.more ep1 (c2 c))
set_option maxRecDepth 100000 in
set_option maxHeartbeats 3200000 in
theorem call_setT {l : Addr} {its : Array Value} (ks : List (Addr × List Int)) {Q : Value → Shared → Prop} (hh : A.handled = none) (isl : s.heap.IsTuple l its) (hit : its.toList = ks.map fun p => Value.ref p.1)
    (hk : ∀ p ∈ ks, IsT P w s.heap p.2 p.1) (few : Few ks) (hu : A.units + 3 < cLine)
    (q : ∀ (h' : Heap) (tk : Nat) L es ep t, SetTR P w h' s.heap.objs.size L es ep t → Got ks ks.length L → (∀ b o, s.heap.get? b = some o → h'.get? b = some o) → Q (.ref s.heap.objs.size) { s with heap := h', toks := tk }) :
    wpAny (model P w) A (call (.type "set") [.ref l]) Q E s := by
  have len : its.size = ks.length := by
    have q := congrArg List.length hit
    rwa [Array.length_toList, List.length_map] at q
  obtain ⟨newO, eNew⟩ : ∃ ob : Obj, ob = { cls := .type "set", dict := none, data := .set #[] 0 (.fresh 0 0 (!w.params.followText "set-order")) } := ⟨_, rfl⟩
  obtain ⟨c, tl, hmro⟩ := PySem.F.called_set.mro
  have f1 := PySem.F.called_set.made
  have f2 := PySem.F.called_set.sub
  refine wpAny_call (codeAny_of_tree (show wpAny _ _ (callAny (.type "set") _) _ _ _ from ?_))
  refine wpAny_pure ⟨Code.quiet_builtin _ (by decide +kernel), codeAny_builtin PySem.F.entry_type_call ?_⟩
  rw [Around.under_plain (weight_type_call_type "set" [.ref l] []) rfl]
  have f3 := PySem.F.called_set.notType
  have f4 := PySem.F.called_set.canCreate
  have f5 := PySem.F.typeCall_set_1 (.ref l)
  repeat (any_goals (first | assumption | wp_step))

  refine codeAny_mono (code_set_led1 (.ref l) (E := E) (Q₁ := fun ob s1 => ob = .ref s.heap.objs.size ∧ s1 = { s with heap := s.heap.push newO }) ⟨rfl, by rw [eNew]⟩) fun r s1 hr => ?_
  cases r with
  | error e => exact hr
  | ok fl =>
    cases fl with
    | ret ob =>
      obtain ⟨rfl, rfl⟩ := hr
      have nf : newO.isFreed = false := by rw [eNew]; rfl
      have at0 : (s.heap.push newO).get? s.heap.objs.size = some newO := Heap.get?_push_size _ nf
      have ty0 : Shared.TypeIs { s with heap := s.heap.push newO } (.ref s.heap.objs.size) "set" := ⟨_, at0, by rw [eNew]⟩
      have f6 := PySem.F.called_set.init.lookup
      have f7 := PySem.F.called_set.init.bind (.ref s.heap.objs.size)
      repeat (any_goals (first | assumption | wp_step))

      refine codeAny_mono (codeAny_call_builtin (R := wants (fun r s2 => r = .none ∧ ∃ h' tk L es ep t, s2 = { s with heap := h', toks := tk } ∧ SetTR P w h' s.heap.objs.size L es ep t ∧ Got ks ks.length L ∧ (∀ b o, s.heap.get? b = some o → h'.get? b = some o)) E) PySem.F.called_set.init.plain PySem.F.entry_set_init (check_set_init_1 ty0 ?_)) fun r2 s2 hr2 => ?_
      · obtain ⟨⟨ocl, odi, oda, osl⟩, atl, ecl, nl, eda⟩ := isl
        simp only at ecl eda
        subst ecl; subst eda
        have atl' : (s.heap.push newO).get? l = some { cls := .type "tuple", dict := odi, data := .seq its nl, slots := osl } := Heap.get?_push_of_some _ atl
        have f8 := PySem.F.sub_tuple_set
        have f9 := PySem.F.sub_tuple_frozenset
        have f10 : (Value.type "tuple" == Value.type "dict") = false := by decide
        have isl1 : (s.heap.push newO).IsTuple l its := ⟨_, atl', rfl, nl, rfl⟩
        subst eNew; unfold Builtin.«set.__init__» noKeywords Builtin.Frozenset.updateFrom
        generalize ePI : pyIter = PI
        wp_walk
        subst ePI

        refine wpAny_pyIter_tuple isl1 ?_; refine wpAny_bind (wpAny_runValue ?_)
        have ll : l < s.heap.objs.size := Heap.lt_size atl
        have hh3 : A.in1.in1.in1.handled = none := by simp [hh]
        have psz : ∀ ob : Obj, (s.heap.push ob).objs.size = s.heap.objs.size + 1 := fun ob => Heap.size_push ..
        have offs : ∀ n : Nat, n = s.heap.objs.size + 1 → s.heap.objs.size ∉ [n, l] := fun n hn => by
          simp only [List.mem_cons, List.not_mem_nil, or_false, not_or]
          exact ⟨fun z => Nat.ne_of_lt (Nat.lt_succ_self _) (z.trans hn), Nat.ne_of_gt ll⟩
        have hval : ∀ (i : Nat) (v : Value), its[i]? = some v → ∃ p, ks[i]? = some p ∧ v = .ref p.1 := fun i v hv => by
          have q : its.toList[i]? = some v := by rw [Array.getElem?_toList]; exact hv
          rw [hit, List.getElem?_map] at q
          cases hq : ks[i]? with
          | none => rw [hq] at q; cases q
          | some p =>
            rw [hq] at q
            exact ⟨p, rfl, (Option.some.inj q).symm⟩
        have none_of : ∀ b, s.heap.objs.size ≤ b → s.heap.get? b = none := fun b hb => by
          cases q : s.heap.get? b with
          | none => rfl
          | some o => exact absurd (Nat.lt_of_lt_of_le (Heap.lt_size q) hb) (Nat.lt_irrefl _)
        refine set_walkT ((Walks.tuple hh3 _ l (by rw [psz]; exact Nat.ne_of_lt (Nat.lt_succ_of_lt ll)) its).toS) s.heap.objs.size (offs _ (psz _)) ks len few hval s.heap hk (none_of _ (Nat.le_refl _)) (fun b hb => none_of b (by
            rw [List.mem_singleton.mp hb, psz]
            exact Nat.le_succ _)) hu (its.size - 0) 0 _ (by omega) (Nat.zero_le _) ⟨⟨_, Heap.get?_push_size _ rfl, rfl, rfl⟩, (isl1.push _)⟩ (fun b o e => Heap.get?_push_of_some _ (Heap.get?_push_of_some _ e)) ?start ?fin
        case start =>
          exact ⟨[], #[], 0, _, setTR_fresh (Heap.get?_push_of_some _ at0), Got.zero ks⟩
        case fin =>
          intro s3 L es ep t mv g got kp
          obtain ⟨h3, g3, d3, t3, o3⟩ := s3
          obtain rfl : g3 = s.gens := mv.gens
          obtain rfl : d3 = s.drawn := mv.drawn
          obtain rfl : o3 = s.os := mv.os
          exact wpAny_pure (show wpAny _ _ (ret Value.none) _ _ _ from wpAny_pure ⟨rfl, h3, t3, L, es, ep, t, rfl, g, len ▸ got, kp⟩)

      · cases r2 with
        | error e => exact hr2
        | ok fl2 =>
          cases fl2 with
          | ret r =>
            obtain ⟨rfl, h', tk, L, es, ep, t, rfl, g, met, kp⟩ := hr2
            repeat (any_goals (first | assumption | wp_step))
            exact q _ _ _ _ _ _ g met kp
          | _ => exact hr2.elim
    | _ => exact hr.elim
end
end DL

namespace DL
open PySem PySem.Spec PyProof.Rows L2
/-! ### the rule -/
open Classical in
noncomputable def nubR : List (List Int) → List (List Int)
  | [] => []
  | k :: r => if k ∈ nubR r then nubR r else k :: nubR r
theorem nubR_mem {k : List Int} : ∀ {ks : List (List Int)}, k ∈ nubR ks ↔ k ∈ ks
  | [] => Iff.rfl
  | x :: r => by
    unfold nubR
    split
    · rename_i h
      rw [nubR_mem, List.mem_cons]
      exact ⟨.inr, fun z => z.elim (fun z => by rw [z]; exact nubR_mem.mp h) fun z => z⟩
    · rw [List.mem_cons, List.mem_cons, nubR_mem]
theorem nubR_nodup : ∀ ks : List (List Int), (nubR ks).Nodup
  | [] => List.nodup_nil
  | x :: r => by
    unfold nubR
    split
    · exact nubR_nodup r
    · rename_i h
      exact List.nodup_cons.mpr ⟨h, nubR_nodup r⟩
def D.row : D → Option (List Int)
  | .tup xs => D.ints xs
  | _ => none
theorem ints_some : ∀ k : List Int, D.ints (k.map D.int) = some k
  | [] => rfl
  | i :: k => by rw [List.map_cons, D.ints, ints_some k]; rfl
theorem row_ans (k : List Int) : D.row (ans k) = some k := ints_some k
def D.rws : List D → Option (List (List Int))
  | [] => some []
  | d :: r => match d.row, D.rws r with
    | some k, some ks => some (k :: ks)
    | _, _ => none
theorem rws_rows : ∀ L : List (List Int), D.rws (rowsD L) = some L
  | [] => rfl
  | k :: L => by
    show (match (ans k).row, D.rws (rowsD L) with | some k, some ks => some (k :: ks) | _, _ => none) = _
    rw [row_ans, rws_rows L]
theorem rows_rws : ∀ {ds : List D} {L : List (List Int)}, D.rws ds = some L → ds = rowsD L
  | [], L, h => by cases h; rfl
  | d :: ds, L, h => by
    unfold D.rws at h
    cases hd : d.row with
    | none => rw [hd] at h; cases h
    | some k =>
      cases hs : D.rws ds with
      | none => rw [hd, hs] at h; cases h
      | some ls =>
        rw [hd, hs] at h
        cases h
        have e : d = ans k := by
          cases d with
          | tup xs => rw [ints_eq (show D.ints xs = some k from hd)]; rfl
          | _ => cases hd
        rw [e, rows_rws hs]
        rfl
/-- the rows' addresses -/
theorem rows_at {K : PySem.W.Frag} {G : Hp} : ∀ {L : List (List Int)} {vs : List V}, RepL K G (rowsD L) vs → ∃ ks : List (Addr × List Int), vs = (ks.map fun p => V.ref p.1) ∧ ks.map (·.2) = L ∧ ∀ p ∈ ks, G p.1 = some (.tup (p.2.map V.int))
  | [], vs, r => ⟨[], by rw [show vs = [] from r]; rfl, rfl, fun p hp => by cases hp⟩
  | k :: L, vs, ⟨v, r, e, ⟨a, ws, e2, ga, rw1⟩, t⟩ => by
    subst e2
    obtain ⟨ks, rfl, h2, h3⟩ := rows_at t
    have ints1 : ∀ {k : List Int} {ws : List V}, RepL K G (k.map D.int) ws → ws = k.map V.int := by
      intro k
      induction k with
      | nil => intro ws h; exact h
      | cons i k ih => rintro _ ⟨v, r, rfl, rfl, t⟩; rw [ih t]; rfl
    refine ⟨(a, k) :: ks, by rw [e]; rfl, by rw [List.map_cons, h2], fun p hp => ?_⟩
    rcases List.mem_cons.mp hp with rfl | hp
    · rw [← ints1 rw1]; exact ga
    · exact h3 p hp
theorem rep_ints {K : PySem.W.Frag} {G : Hp} : ∀ k : List Int, RepL K G (k.map D.int) (k.map V.int)
  | [] => rfl
  | _ :: k => ⟨_, _, rfl, rfl, rep_ints k⟩
theorem ans_dp (k : List Int) : (ans k).py.depth ≤ 2 := by
  have : ∀ k : List Int, PyData.depthAll (D.pys (k.map D.int)) ≤ 1 := by
    intro k
    induction k with
    | nil => simp [D.pys, PyData.depthAll]
    | cons i k ih => simp only [List.map_cons, D.pys, D.py, PyData.depthAll, PyData.depth]; omega
  have h := this k
  simp only [ans, D.py, PyData.depth]
  omega
section
variable {X : Cx} {W : WX} {A : Nat → Prop} {a : Expr} {p p2 q pos : Pos}
/-- a set made of a tuple of rows, sorted -/
def tSortSetR (K : PySem.W.Frag) (ta : TE) : TE := fun σ H Q => ta σ H fun x H1 => ∃ (l : Addr) (ks : List (Addr × List Int)), x = V.ref l ∧ SqT K H1 l (ks.map fun p => V.ref p.1) ∧ (∀ p ∈ ks, H1 p.1 = some (.tup (p.2.map V.int))) ∧ Few ks ∧ ks.length ≤ 100000 ∧
  ∀ (L' : List (Addr × List Int)) (d : Addr), (∀ p ∈ L', p ∈ ks) → L'.map (·.2) = sortK (nubR (ks.map (·.2))) → H1 d = none → Q (.ref d) (upd H1 d (.lst (L'.map fun p => V.ref p.1)))
theorem few_of {ks : List (Addr × List Int)} (h : (nubR (ks.map (·.2))).length < 64) : Few ks := fun l nd sub => by
  have := List.Nodup.length_le_of_subset nd (fun k hk => nubR_mem.mpr (sub k hk))
  omega
theorem pe_sortSetR {ta : TE} (hc : X.calm = true) (hu : X.A.units + 64 < cLine) (hg : Gl X "sorted") (hm : X.mg "sorted" = none) (hg2 : Gl X "set") (hm2 : X.mg "set" = none) (ha : PE X a ta) (na : starEach [a] X.env = (false, eval a X.env) :: starEach [] X.env := by rfl) :
    PE X (.Call (.Name "sorted" p) [.Call (.Name "set" p2) [a] [] q] [] pos) (tSortSetR X.K ta) := by
  refine ⟨fun pins s σ H Q I h => ?_⟩
  refine Call_ (ld_blt I hg hm boot_sorted ?_)
  refine PyProof.Rows.callWith_builtin1 (PyProof.Rows.args_cons (Call_ (ld_blt I hg2 hm2 boot_set ?_)) rfl) rfl rfl
  refine PyProof.Rows.callWith_type1 (PyProof.Rows.args_cons (thn (ha.run pins s σ H _ I h) fun v s1 ⟨x, H1, I1, r1, q1⟩ => PyProof.Rows.args_nil ?_) na) na rfl
  obtain ⟨l, ks, rfl, hq, hat, few, hlen, q1⟩ := q1
  cases r1
  obtain ⟨its, r, tp, hz⟩ := I1.tuple hq
  refine call_setT (P := X.prog) (w := X.w) ks (I1.ok.hd hc) tp (by simpa using refs_of_vals r) (fun p hp => I1.isT (SqT.of (hat p hp))) few (by omega) fun h' tk L es ep t R got kp => PyProof.Rows.args_nil ?_
  have J : Inv X pins σ H1 { s1 with heap := h', toks := tk } := I1.kept (t' := tk) fun b o e => kp b o e
  have sub : ∀ p ∈ L, p ∈ ks := fun p hp => List.mem_of_mem_take (got.sub p hp)
  have all : ∀ p ∈ ks, p.2 ∈ L.map (·.2) := fun p hp => got.all p (by rw [List.take_length]; exact hp)
  have pm : (L.map (·.2)).Perm (nubR (ks.map (·.2))) := (List.perm_ext_iff_of_nodup R.nd (nubR_nodup _)).mpr fun k => by
    rw [nubR_mem]
    constructor
    · intro hk
      obtain ⟨p, hp, rfl⟩ := List.mem_map.mp hk
      exact List.mem_map.mpr ⟨p, sub p hp, rfl⟩
    · intro hk
      obtain ⟨p, hp, rfl⟩ := List.mem_map.mp hk
      exact all p hp
  have small : ∀ l : List (Addr × List Int), l.Perm L → l.length < 64 := fun l pl => by rw [pl.length_eq]; exact R.few
  have ok : ∀ l : List (Addr × List Int), l.Perm L → SortOk ((l.map (·.2)).map ans) := fun l pl => sortOk_ans (by have := small l pl; rw [List.length_map, PySem.sizeLine_eq]; omega)
  have emp : ∀ l : List (Addr × List Int), (l.map fun k => (ans k.2).py) = ((l.map (·.2)).map ans).map D.py := fun l => by rw [List.map_map, List.map_map]; rfl
  obtain ⟨o, ho, hex, hd0⟩ := R.ob
  have hrow : es.toList.map (·.2) = L.map fun q => Value.ref q.1 := by
    rw [R.rows]
    unfold rowsOf
    rw [List.map_map] <;> rfl
  refine sorted_genD (C := fun l => l.Perm L) (R := fun v (k : Addr × List Int) => v = Value.ref k.1 ∧ k ∈ L) (enc := fun k => (ans k.2).py) (s := { s1 with heap := h', toks := tk }) (fun E' Q' hq => ?_) (fun v k hk => ?_) (fun l pl => ?_) (fun l pl => ?_) (fun l pl => by have := small l pl; rw [PySem.sizeLine_eq]; omega) (fun l pl k hk => ?_) fun out d h1 h2 tk2 dr l pl keep keep2 hd hat2 e => ?_
  · refine collect_set (A := X.A.in1) (J.ok.hd hc) ⟨o, ho, hex.1, hd0⟩ (SetTR.fits (s := { s1 with heap := h', toks := tk }) R) (by have := R.few; rw [SetTR.size (s := { s1 with heap := h', toks := tk }) R]; unfold scanBound; omega) R.tab.ris R.led fun s' out kp2 hz2 hg2 ho2 pm2 => ?_
    rw [hrow] at pm2
    obtain ⟨l1, p1, g1⟩ := paired_perm pm2 (l := L) (F := fun (k : Addr × List Int) v => v = Value.ref k.1 ∧ k ∈ L) (by
      have : ∀ T : List (Addr × List Int), (∀ k ∈ T, k ∈ L) → Paired (fun (k : Addr × List Int) v => v = Value.ref k.1 ∧ k ∈ L) T (T.map fun q => Value.ref q.1) := by
        intro T
        induction T with
        | nil => exact fun _ => .nil
        | cons k T ih => exact fun h => .cons ⟨rfl, h k List.mem_cons_self⟩ (ih fun x hx => h x (List.mem_cons_of_mem _ hx))
      exact this L fun k hk => hk)
    obtain ⟨h1, g1', d1, t1, o1⟩ := s'
    obtain rfl : g1' = s1.gens := hg2
    obtain rfl : o1 = s1.os := ho2
    refine hq out h1 t1 d1 l1 p1 kp2 ?_
    have each : ∀ {l : List (Addr × List Int)} {vs : List Value}, Paired (fun (k : Addr × List Int) v => v = Value.ref k.1 ∧ k ∈ L) l vs → PySem.W.EachIs (fun v (k : Addr × List Int) => v = Value.ref k.1 ∧ k ∈ L) vs l := by
      intro l vs h
      induction h with
      | nil => exact .nil
      | cons a t ih => exact .cons a ih
    exact each g1
  · obtain ⟨rfl, hkL⟩ := hk
    exact Dp.reads J (ans k.2).py (.ref k.1) (.ref k.1) (Rep.dp (ans k.2) 50 (.ref k.1) (ans_pl k.2 49) ⟨k.1, _, rfl, hat k (sub k hkL), rep_ints k.2⟩) rfl
  · rw [emp]; exact (ok l pl).alike
  · rw [emp]; exact (ok l pl).kind
  · have := ans_dp k.2
    omega
  · have srt : (l.mergeSort (PySem.W.dataLe false fun k => (ans k.2).py)).map (·.2) = sortK (nubR (ks.map (·.2))) := by
      have e1 : (l.mergeSort (PySem.W.dataLe false fun k => (ans k.2).py)).map (·.2) = (l.map (·.2)).mergeSort leB := by
        rw [List.map_mergeSort]
        intro a _ b _
        exact le_ans a.2 b.2
      rw [e1]
      exact sortK_ext ((pl.map (·.2)).trans pm)
    have mem : ∀ k ∈ l.mergeSort (PySem.W.dataLe false fun k => (ans k.2).py), k ∈ ks := fun k hk => sub k (pl.mem_iff.mp (List.mem_mergeSort.mp hk))
    have lsm : (l.mergeSort (PySem.W.dataLe false fun k => (ans k.2).py)).length < 64 := by rw [List.length_mergeSort]; exact small l pl
    generalize l.mergeSort (PySem.W.dataLe false fun k => (ans k.2).py) = L' at e srt mem lsm
    have ev : ∀ {vs : List Value} {l : List (Addr × List Int)}, PySem.W.EachIs (fun v (k : Addr × List Int) => v = Value.ref k.1 ∧ k ∈ L) vs l → Vals (l.map fun q => V.ref q.1) vs := by
      intro vs l h
      induction h with
      | nil => exact .nil
      | cons a t ih => exact .cons (by rw [a.1]; rfl) ih
    obtain ⟨c, hat2⟩ := hat2
    have J2 := J.call (h' := h1) (g' := s1.gens) (d' := dr) (t' := tk2) (ch := []) (Un.kept keep) (J.hok.kept keep) J.bare (fun _ z => nomatch z)
    exact ⟨.ref d, upd H1 d (.lst (L'.map fun q => V.ref q.1)), J2.laid (t' := tk2) keep2 hd ⟨by rw [List.length_map, PySem.sizeLine_eq]; omega, out, c, ev e, hat2⟩, rfl, q1 L' d mem srt (J2.hok.fresh hd)⟩
end
end DL

/-! tuples put together, one of them plain; sorted(set(t)) of plain tuples -/
namespace DL
open PySem PySem.Spec PyProof.Rows L2
/-- a plain tuple and another one: what is empty gives the other one itself -/
def dCatM : D → D → Res D
  | .con a, .tup b => if a.length + b.length ≤ sizeLine then .ok (if a = [] then .tup b else if b = [] then .con a else .tup (a ++ b)) else .bad
  | _, _ => .bad
section
variable {X : Cx} {W : WX} {A : Nat → Prop}
theorem od_catM : OpD X W (binaryOp .Add) dCatM := by
  refine ⟨_, op_catA, fun σ H G x y dx dy Q sg rx ry p => ?_⟩
  cases dx with
  | con i =>
    cases dy with
    | tup j =>
      dsimp only [dCatM] at p
      by_cases hc : i.length + j.length ≤ sizeLine
      · rw [if_pos hc] at p
        obtain ⟨a, vs, e1, s1, r1⟩ := (show Rep X.K G (.con i) x from rx)
        obtain ⟨b, ws, e2, s2, r2⟩ := (show Rep X.K G (.tup j) y from ry)
        refine ⟨a, b, vs, ws, e1, e2, sg.sqt s1.sqt, sg.pt s2, by rw [r1.length, r2.length]; exact hc, fun z => ?_, fun z1 z2 => ?_, fun z1 z2 q hq => ?_⟩
        · subst z
          cases i with
          | nil => rw [if_pos rfl] at p; exact p.here sg _ ⟨b, ws, rfl, s2, r2⟩
          | cons d ds => obtain ⟨_, _, e, _⟩ := r1; cases e
        · subst z2
          cases j with
          | nil =>
            cases i with
            | nil => exact absurd (show vs = [] from r1) z1
            | cons d ds => rw [if_neg (by simp), if_pos rfl] at p; exact p.here sg _ ⟨a, vs, rfl, s1, r1⟩
          | cons d ds => obtain ⟨_, _, e, _⟩ := r2; cases e
        · have i0 : i ≠ [] := fun z => by subst z; exact z1 (show vs = [] from r1)
          have j0 : j ≠ [] := fun z => by subst z; exact z2 (show ws = [] from r2)
          rw [if_neg i0, if_neg j0] at p
          exact p _ _ (Ext.laid sg hq) _ ⟨q, _, rfl, upd_same, (r1.append r2).mono (Sub.upd (sg.free hq))⟩
      · rw [if_neg hc] at p; exact p.elim
    | _ => exact (show False from p).elim
  | _ => exact (show False from p).elim
open Classical in
noncomputable def dSortSetP : D → Res D
  | .con xs => match D.rws xs with
    | some L => if (nubR L).length < 64 ∧ L.length ≤ 100000 then .ok (.lst (rowsD (sortK (nubR L)))) else .bad
    | none => .bad
  | _ => .bad
variable {a : Expr} {p p2 q pos : Pos}
theorem df_sortSetP {f : DL.Env → Res D} (hc : X.calm = true) (hu : X.A.units + 64 < cLine) (hg : Gl X "sorted") (hm : X.mg "sorted" = none) (hg2 : Gl X "set") (hm2 : X.mg "set" = none) (ha : DE X W A a f) (na : starEach [a] X.env = (false, eval a X.env) :: starEach [] X.env := by rfl) :
    DF X W A (.Call (.Name "sorted" p) [.Call (.Name "set" p2) [a] [] q] [] pos) (e1 dSortSetP f) :=
  (pe_sortSetR hc hu hg hm hg2 hm2 ha na).imp fun σ H Q ⟨e, G, E, h⟩ => ⟨e, G, E, h.split.imp fun d H1 G1 x1 q1 v rv => by
    cases d with
    | con xs =>
      obtain ⟨b, vs, rfl, s, r⟩ := rv
      dsimp only [dSortSetP] at q1
      cases hk : D.rws xs with
      | none => rw [hk] at q1; exact q1.elim
      | some L =>
        rw [hk] at q1
        dsimp only at q1
        by_cases hl : (nubR L).length < 64 ∧ L.length ≤ 100000
        · rw [if_pos hl] at q1
          rw [rows_rws hk] at r
          obtain ⟨ks, rfl, e2, at_⟩ := rows_at r
          refine ⟨b, ks, rfl, x1.gh.sqt s.sqt, fun p hp => x1.gh _ _ (at_ p hp), few_of (by rw [e2]; exact hl.1), by rw [← e2, List.length_map] at hl; exact hl.2, fun L' d mem srt nd => ?_⟩
          refine q1 (upd H1 d (.lst _)) G1 ⟨Sub.upd nd, Sub.refl _, x1.gh.trans (Sub.upd nd), fun b z => .inl z⟩ d (x1.hh.free nd) (x1.gh.free nd) ⟨_, upd_same, ?_⟩
          rw [e2] at srt
          rw [← srt]
          have : ∀ T : List (Addr × List Int), (∀ p ∈ T, p ∈ ks) → RepL X.K G1 (rowsD (T.map (·.2))) (T.map fun p => V.ref p.1) := by
            intro T
            induction T with
            | nil => exact fun _ => rfl
            | cons k T ih => exact fun h => ⟨_, _, rfl, ⟨k.1, _, rfl, at_ k (h k List.mem_cons_self), rep_ints k.2⟩, ih fun x hx => h x (List.mem_cons_of_mem _ hx)⟩
          exact this L' mem
        · rw [if_neg hl] at q1; exact q1.elim
    | _ => exact (show False from q1).elim⟩
/-! sorted(x), x a plain tuple, too -/
def D.itemsX : D → Option (List D)
  | .con xs => some xs
  | d => d.items
open Classical in
noncomputable def dSortedX : D → Res D := fun d => match d.itemsX with
  | some xs => if SortOk xs then .ok (.lst (sortD xs)) else .bad
  | none => .bad
open Classical in
theorem c1_sortedX (hcalm : X.calm = true) (hu : X.A.units + 64 < cLine) : Call1F X W (.builtin "sorted") dSortedX := by
  refine ⟨_, cr_sorted0 hcalm hu, fun σ H G x dx Q sg rx p => ?_⟩
  unfold dSortedX at p
  cases hi : dx.itemsX with
  | none => rw [hi] at p; exact p.elim
  | some ds =>
    rw [hi] at p
    dsimp only at p
    by_cases ok : SortOk ds
    · rw [if_pos ok] at p
      have fin : ∀ G2, Ext H G H G2 → ∀ q ys, H q = none → RepL X.K G2 (sortD ds) ys → Q (.ref q) (upd H q (.lst ys)) := fun G2 x2 q ys hq r =>
        p (upd H q (.lst ys)) G2 ⟨x2.hh.trans (Sub.upd hq), x2.gg, x2.gh.trans (Sub.upd hq), x2.new⟩ q hq (x2.gh.free hq) ⟨ys, upd_same, r⟩
      cases dx with
      | lst xs =>
        cases hi
        obtain ⟨a, vs, rfl, s, r⟩ := rx
        exact ⟨a, _, rfl, ok, .inl ⟨G, ⟨sg, vs, .inl s, r⟩, fin G (Ext.refl sg)⟩⟩
      | tup xs =>
        cases hi
        obtain ⟨a, vs, rfl, s, r⟩ := (show Rep X.K G (.tup _) x from rx)
        exact ⟨a, _, rfl, ok, .inl ⟨G, ⟨sg, vs, .inr (sg.pt s), r⟩, fin G (Ext.refl sg)⟩⟩
      | con xs =>
        cases hi
        obtain ⟨a, vs, rfl, s, r⟩ := (show Rep X.K G (.con _) x from rx)
        exact ⟨a, _, rfl, ok, .inl ⟨G, ⟨sg, vs, .inr (sg.sqt s.sqt), r⟩, fin G (Ext.refl sg)⟩⟩
      | dct t kvs =>
        cases hi
        obtain ⟨a, rfl, h⟩ := rx
        rcases h with ⟨t0, ps, s, hkeys, rv⟩ | ⟨t0, ps, s, hkeys, rv⟩
        · exact ⟨a, _, rfl, ok, .inr (.inl ⟨ps, s, hkeys, G, sg, fin G (Ext.refl sg)⟩)⟩
        · refine ⟨a, _, rfl, ok, .inr (.inr ⟨ps, s, hkeys, fun bs G1 hb sg1 hG1 q ys hq r => ?_⟩)⟩
          have s2 : Sub G (fun b => if b ∈ bs then H b else G b) := fun b o e => by
            dsimp only
            by_cases hbb : b ∈ bs
            · rw [if_pos hbb]; exact sg _ _ e
            · rw [if_neg hbb]; exact e
          have s3 : Sub G1 (fun b => if b ∈ bs then H b else G b) := fun b o e => by
            dsimp only
            rw [if_pos (hG1 b o e)]; exact sg1 _ _ e
          have s4 : Sub (fun b => if b ∈ bs then H b else G b) H := fun b o e => by
            dsimp only at e
            by_cases hbb : b ∈ bs
            · rw [if_pos hbb] at e; exact e
            · rw [if_neg hbb] at e; exact sg _ _ e
          refine fin _ ⟨Sub.refl H, s2, s4, fun b e => ?_⟩ q ys hq (r.mono s3)
          by_cases hbb : b ∈ bs
          · exact .inr (.inr (hb b hbb))
          · rw [if_neg hbb] at e; exact .inl e
      | _ => cases hi
    · rw [if_neg ok] at p; exact p.elim
end
end DL

/-! Typed readings of the plain-data bodies: what a body does, told over Lean's own types. -/
namespace DL
open PySem PySem.Spec PyProof.Rows L2
open PySem.Builtin.Int (intBits)

/-- two lists, item by item -/
def A2 {α β : Type} (E : α → β → Prop) : List α → List β → Prop
  | [], ds => ds = []
  | a :: l, ds => ∃ d r, ds = d :: r ∧ E a d ∧ A2 E l r
section
variable {α β : Type} {E : α → β → Prop}
theorem A2.nil : A2 E [] [] := rfl
theorem A2.cons {a : α} {d : β} {l : List α} {r : List β} (h : E a d) (t : A2 E l r) : A2 E (a :: l) (d :: r) := ⟨d, r, rfl, h, t⟩
theorem A2.length : ∀ {l : List α} {r : List β}, A2 E l r → r.length = l.length
  | [], _, h => by rw [show _ = [] from h]; rfl
  | _ :: _, _, ⟨d, r, e, _, t⟩ => by rw [e, List.length_cons, List.length_cons, A2.length t]
theorem A2.append : ∀ {l l' : List α} {r r' : List β}, A2 E l r → A2 E l' r' → A2 E (l ++ l') (r ++ r')
  | [], _, _, _, h, t => by rw [show _ = [] from h]; exact t
  | _ :: _, _, _, _, ⟨d, r, e, x, y⟩, t => by rw [e]; exact ⟨d, _, rfl, x, A2.append y t⟩
theorem A2.drop : ∀ {l : List α} {r : List β} (n : Nat), A2 E l r → A2 E (l.drop n) (r.drop n)
  | _, _, 0, h => h
  | [], _, n + 1, h => by rw [show _ = [] from h]; rfl
  | _ :: _, _, n + 1, ⟨d, r, e, x, y⟩ => by rw [e]; exact A2.drop n y
theorem A2.take : ∀ {l : List α} {r : List β} (n : Nat), A2 E l r → A2 E (l.take n) (r.take n)
  | _, _, 0, h => rfl
  | [], _, n + 1, h => by rw [show _ = [] from h]; rfl
  | _ :: _, _, n + 1, ⟨d, r, e, x, y⟩ => by rw [e]; exact ⟨d, _, rfl, x, A2.take n y⟩
theorem A2.set {a : α} {d : β} (h : E a d) : ∀ {l : List α} {r : List β} (n : Nat), A2 E l r → A2 E (l.set n a) (r.set n d)
  | [], _, n, e => by rw [show _ = [] from e]; rfl
  | _ :: _, _, 0, ⟨w, r, e, x, y⟩ => by rw [e]; exact ⟨d, r, rfl, h, y⟩
  | _ :: _, _, n + 1, ⟨w, r, e, x, y⟩ => by rw [e]; exact ⟨w, _, rfl, x, A2.set h n y⟩
theorem A2.get : ∀ {l : List α} {r : List β} {i : Nat} {a : α}, A2 E l r → l[i]? = some a → ∃ d, r[i]? = some d ∧ E a d
  | _ :: _, _, 0, _, ⟨v, r, e, x, y⟩, h => by cases h; exact ⟨v, by rw [e]; rfl, x⟩
  | _ :: _, _, i + 1, d, ⟨v, r, e, x, y⟩, h => by
    obtain ⟨w, h1, h2⟩ := A2.get (i := i) (a := d) y (by simpa using h)
    exact ⟨w, by rw [e]; simpa using h1, h2⟩
theorem A2.imp {E' : α → β → Prop} (f : ∀ a d, E a d → E' a d) : ∀ {l : List α} {r : List β}, A2 E l r → A2 E' l r
  | [], _, h => h
  | _ :: _, _, ⟨d, r, e, x, y⟩ => ⟨d, r, e, f _ _ x, A2.imp f y⟩
theorem A2.fn {f : α → β} : ∀ {l : List α} {r : List β}, A2 (fun a d => d = f a) l r ↔ r = l.map f
  | [], r => Iff.rfl
  | a :: l, r => ⟨fun ⟨d, r', e, x, y⟩ => by rw [e, x, A2.fn.mp y]; rfl, fun h => ⟨f a, l.map f, h, rfl, A2.fn.mpr rfl⟩⟩
end

/-- r tells what x is, where it tells at all -/
def Rf {α β : Type} (x : Res β) (r : Res α) (E : α → β → Prop) : Prop := match r with
  | .ok a => ∃ d, x = .ok d ∧ E a d
  | .exc c fs => x = .exc c fs
  | .bad => True
section
variable {α β γ δ : Type}
theorem Rf.bind {x : Res β} {r : Res α} {E : α → β → Prop} {f : β → Res δ} {g : α → Res γ} {E' : γ → δ → Prop} (h : Rf x r E) (k : ∀ a d, E a d → Rf (f d) (g a) E') : Rf (x.bind f) (r.bind g) E' := by
  cases r with
  | ok a => obtain ⟨d, e, h⟩ := h; rw [e]; exact k a d h
  | exc c fs => rw [show x = _ from h]; exact rfl
  | bad => trivial
theorem Rf.ok {d : β} {a : α} {E : α → β → Prop} (h : E a d) : Rf (.ok d) (.ok a) E := ⟨d, rfl, h⟩
theorem Rf.bad {x : Res β} {E : α → β → Prop} : Rf x .bad E := trivial
theorem Rf.imp {x : Res β} {r : Res α} {E E' : α → β → Prop} (h : Rf x r E) (f : ∀ a d, E a d → E' a d) : Rf x r E' := by
  cases r with
  | ok a => obtain ⟨d, e, h⟩ := h; exact ⟨d, e, f _ _ h⟩
  | exc c fs => exact h
  | bad => trivial
theorem Rf.map {x : Res β} {r : Res α} {E : α → β → Prop} {E' : γ → β → Prop} {g : α → γ} (h : Rf x r E) (f : ∀ a d, E a d → E' (g a) d) : Rf x (r.bind fun a => .ok (g a)) E' := by
  cases r with
  | ok a => obtain ⟨d, e, h⟩ := h; exact ⟨d, e, f _ _ h⟩
  | exc c fs => exact h
  | bad => trivial
theorem Rf.get {x : Res β} {r : Res α} {E : α → β → Prop} {a : α} (h : Rf x r E) (e : r = .ok a) : ∃ d, x = .ok d ∧ E a d := by subst e; exact h
/-- where the reckoning itself is told -/
theorem Rf.of {x : Res β} {r : Res α} {E : α → β → Prop} {d : β} {a : α} (e : x = .ok d) (q : r = .ok a) (h : E a d) : Rf x r E := by subst q; exact ⟨d, e, h⟩
end

/-- what is known of a name -/
abbrev Kn := D → Bool → Prop
abbrev KEnv := List (Option Kn)
def sh {α : Type} (E : α → D → Prop) (a : α) : Kn := fun d o => E a d ∧ o = false
def ow {α : Type} (E : α → D → Prop) (a : α) : Kn := fun d o => E a d ∧ o = true
/-- the names' values are as known -/
def Le : KEnv → DL.Env → Prop := A2 fun r x => ∀ P, r = some P → ∃ d o, x = some (d, o) ∧ P d o
theorem Le.get {ρ : KEnv} {e : DL.Env} (h : Le ρ e) {i : Nat} {P : Kn} (k : ρ[i]? = some (some P)) : ∃ d o, e[i]? = some (some (d, o)) ∧ P d o := by
  obtain ⟨x, h1, h2⟩ := A2.get h k
  obtain ⟨d, o, h3, h4⟩ := h2 P rfl
  exact ⟨d, o, by rw [h1, h3], h4⟩
theorem Le.set {ρ : KEnv} {e : DL.Env} (h : Le ρ e) (i : Nat) {P : Kn} {d : D} {o : Bool} (k : P d o) : Le (ρ.set i (some P)) (e.set i (some (d, o))) :=
  A2.set (fun Q hq => by cases hq; exact ⟨d, o, rfl, k⟩) i h
theorem Le.forget {ρ : KEnv} {e : DL.Env} (h : Le ρ e) (i : Nat) : Le (ρ.set i none) (e.set i none) := A2.set (fun Q hq => by cases hq) i h
/-- less is known -/
def Sb : KEnv → KEnv → Prop := A2 fun r x => r = none ∨ r = x
theorem Le.less {ρ' ρ : KEnv} {e : DL.Env} (s : Sb ρ' ρ) (h : Le ρ e) : Le ρ' e := by
  induction ρ generalizing ρ' e with
  | nil =>
    cases ρ' with
    | nil => exact h
    | cons r ρ' => obtain ⟨_, _, e, _⟩ := s; cases e
  | cons x ρ ih =>
    obtain ⟨y, e', rfl, h1, h2⟩ := h
    cases ρ' with
    | nil => cases (show _ = [] from s)
    | cons r ρ' =>
      obtain ⟨_, _, e, s1, s2⟩ := s
      cases e
      refine ⟨y, e', rfl, fun P hP => ?_, ih s2 h2⟩
      rcases s1 with z | z
      · rw [z] at hP; cases hP
      · exact h1 P (z ▸ hP)
theorem Sb.nil : Sb [] [] := rfl
theorem Sb.same {r : Option Kn} {a b : KEnv} (s : Sb a b) : Sb (r :: a) (r :: b) := ⟨_, _, rfl, .inr rfl, s⟩
theorem Sb.drop {r : Option Kn} {a b : KEnv} (s : Sb a b) : Sb (none :: a) (r :: b) := ⟨_, _, rfl, .inl rfl, s⟩
theorem Sb.refl : ∀ a : KEnv, Sb a a
  | [] => rfl
  | _ :: a => .same (Sb.refl a)
/-- a list is handed on: what was owned is owned no more -/
def frK (P : Kn) : Kn := fun d o => o = false ∧ ∃ o', P d o'
def fzK : List Nat → KEnv → KEnv
  | [], ρ => ρ
  | i :: r, ρ => fzK r (match ρ[i]? with
    | some (some P) => ρ.set i (some (frK P))
    | _ => ρ)
theorem Le.unown {ρ : KEnv} {e : DL.Env} (h : Le ρ e) (i : Nat) : Le (match ρ[i]? with | some (some P) => ρ.set i (some (frK P)) | _ => ρ) (unown i e) := by
  cases hp : ρ[i]? with
  | none =>
    have : e[i]? = none := by
      rw [List.getElem?_eq_none_iff] at hp ⊢
      rw [A2.length h]; exact hp
    unfold DL.unown
    rw [this]
    exact h
  | some r =>
    cases r with
    | none =>
      have self : ρ.set i none = ρ := by
        apply List.ext_getElem?
        intro j
        rw [List.getElem?_set]
        by_cases hj : i = j
        · subst hj
          obtain ⟨w, hw⟩ := List.getElem?_eq_some_iff.mp hp
          simp [w, hw]
        · simp [hj]
      unfold DL.unown
      cases he : e[i]? with
      | none => exact h
      | some s =>
        cases s with
        | none => exact h
        | some z =>
          obtain ⟨d, o⟩ := z
          cases o with
          | false => exact h
          | true =>
            show Le ρ (e.set i (some (d, false)))
            rw [← self]
            exact A2.set (fun P hP => by cases hP) i h
    | some P =>
      obtain ⟨d, o, he, hP⟩ := h.get hp
      unfold DL.unown
      rw [he]
      cases o with
      | true => exact Le.set h i ⟨rfl, _, hP⟩
      | false =>
        dsimp only
        have : e.set i (some (d, false)) = e := by
          apply List.ext_getElem?
          intro j
          rw [List.getElem?_set]
          by_cases hj : i = j
          · subst hj
            rw [he]
            have := (List.getElem?_eq_some_iff.mp he).1
            simp [this]
          · simp [hj]
        rw [← this]
        exact Le.set h i ⟨rfl, _, hP⟩
theorem Le.fz : ∀ (al : List Nat) {ρ : KEnv} {e : DL.Env}, Le ρ e → Le (fzK al ρ) (fz al e)
  | [], _, _, h => h
  | i :: r, _, _, h => Le.fz r (h.unown i)
def wipeK (ρ : KEnv) : List Nat → KEnv
  | [] => ρ
  | v :: vs => (wipeK ρ vs).set v none
theorem Le.wipe {ρ : KEnv} {e : DL.Env} (h : Le ρ e) : ∀ vs : List Nat, Le (wipeK ρ vs) (wipeE e vs)
  | [] => h
  | v :: vs => (Le.wipe h vs).forget v

/-! ### expressions -/
def EvR {α β : Type} (ρ : KEnv) (f : DL.Env → Res β) (r : Res α) (E : α → β → Prop) : Prop := ∀ e, Le ρ e → Rf (f e) r E
abbrev RE (α : Type) := α → D → Prop
def eI : RE Int := fun i d => d = .int i
def eB : RE Bool := fun b d => d = .bl b
def eS : RE Str := fun x d => d = .str x
def eN : RE Unit := fun _ d => d = .non
def eD : RE D := fun a d => d = a
def eL {α : Type} (E : RE α) : RE (List α) := fun l d => ∃ ds, d = .lst ds ∧ A2 E l ds
def eT {α : Type} (E : RE α) : RE (List α) := fun l d => ∃ ds, d = .tup ds ∧ A2 E l ds
/-- rows of numbers -/
def eR : RE (List Int) := fun k d => d = ans k
/-- tuples of known form: the items' list -/
def qN : Unit → List D → Prop := fun _ ds => ds = []
def q1 {α : Type} (E : RE α) : α → List D → Prop := fun a ds => ∃ d, ds = [d] ∧ E a d
def qC {α β : Type} (E : RE α) (Q : β → List D → Prop) : α × β → List D → Prop := fun p ds => ∃ d r, ds = d :: r ∧ E p.1 d ∧ Q p.2 r
/-- truths and lists, as they are -/
def Tr : Bool → Bool → Prop := fun a b => b = a
section
variable {α β γ δ : Type} {ρ : KEnv}
theorem v_s {i : Nat} {E : RE α} {a : α} (h : ρ[i]? = some (some (sh E a))) : EvR ρ (eVarS i) (.ok a) E := fun e l => by
  obtain ⟨d, o, h1, h2, h3⟩ := l.get h
  subst h3
  exact ⟨d, by unfold eVarS; rw [h1], h2⟩
theorem v_o {i : Nat} {E : RE α} {a : α} (h : ρ[i]? = some (some (ow E a))) : EvR ρ (eVar i) (.ok a) E := fun e l => by
  obtain ⟨d, o, h1, h2, h3⟩ := l.get h
  exact ⟨d, by unfold eVar; rw [h1], h2⟩
theorem v_c {d : D} {E : RE α} {a : α} (h : E a d) : EvR ρ (eC d) (.ok a) E := fun e l => ⟨d, rfl, h⟩
theorem v_op {fa fb : DL.Env → Res D} {g : D → D → Res D} {Ea : RE α} {Eb : RE β} {Ec : RE γ} {ra : Res α} {rb : Res β} {gt : α → β → Res γ} (hg : ∀ a b x y, Ea a x → Eb b y → Rf (g x y) (gt a b) Ec) (ha : EvR ρ fa ra Ea) (hb : EvR ρ fb rb Eb) :
    EvR ρ (eOp g fa fb) (ra.bind fun a => rb.bind fun b => gt a b) Ec := fun e l => (ha e l).bind fun a x h1 => (hb e l).bind fun b y h2 => hg a b x y h1 h2
theorem v_opp {fa fb : DL.Env → Res D} {g : D → D → Res D} {Ea : RE α} {Eb : RE β} {Ec : RE γ} {a : α} {b : β} {r : Res γ} (hg : ∀ x y, Ea a x → Eb b y → Rf (g x y) r Ec) (ha : EvR ρ fa (.ok a) Ea) (hb : EvR ρ fb (.ok b) Eb) :
    EvR ρ (eOp g fa fb) r Ec := fun e l => by
  obtain ⟨x, e1, h1⟩ := ha e l
  obtain ⟨y, e2, h2⟩ := hb e l
  unfold eOp
  rw [e1, e2]
  exact hg x y h1 h2
theorem v_1 {fa : DL.Env → Res D} {g : D → Res D} {Ea : RE α} {Ec : RE γ} {ra : Res α} {gt : α → Res γ} (hg : ∀ a x, Ea a x → Rf (g x) (gt a) Ec) (ha : EvR ρ fa ra Ea) : EvR ρ (e1 g fa) (ra.bind gt) Ec := fun e l => (ha e l).bind hg
theorem v_1p {fa : DL.Env → Res D} {g : D → Res D} {Ea : RE α} {Ec : RE γ} {a : α} {r : Res γ} (hg : ∀ x, Ea a x → Rf (g x) r Ec) (ha : EvR ρ fa (.ok a) Ea) : EvR ρ (e1 g fa) r Ec := fun e l => by
  obtain ⟨x, e1, h1⟩ := ha e l
  unfold DL.e1
  rw [e1]
  exact hg x h1
theorem v_imp {fa : DL.Env → Res β} {E E' : α → β → Prop} {r : Res α} (h : EvR ρ fa r E) (f : ∀ a d, E a d → E' a d) : EvR ρ fa r E' := fun e l => (h e l).imp f
theorem vq_1 {f : DL.Env → Res D} {r : Res α} {E : RE α} (h : EvR ρ f r E) : EvR ρ (aCons f aNil) r (q1 E) := fun e l => by
  have := h e l
  unfold aCons aNil
  cases r with
  | ok a => obtain ⟨d, e1, h1⟩ := this; rw [e1]; exact ⟨[d], rfl, d, rfl, h1⟩
  | exc c fs => rw [show f e = _ from this]; rfl
  | bad => trivial
theorem vq_c {f : DL.Env → Res D} {fs : DL.Env → Res (List D)} {r : Res α} {rs : Res β} {E : RE α} {Q : β → List D → Prop} (h : EvR ρ f r E) (t : EvR ρ fs rs Q) : EvR ρ (aCons f fs) (r.bind fun a => rs.bind fun b => .ok (a, b)) (qC E Q) := fun e l =>
  (h e l).bind fun a d h1 => (t e l).bind fun b ds h2 => .ok ⟨d, ds, rfl, h1, h2⟩
theorem vq_cp {f : DL.Env → Res D} {fs : DL.Env → Res (List D)} {a : α} {b : β} {E : RE α} {Q : β → List D → Prop} (h : EvR ρ f (.ok a) E) (t : EvR ρ fs (.ok b) Q) : EvR ρ (aCons f fs) (.ok (a, b)) (qC E Q) := vq_c h t
/-- as many items as one likes, all of a kind -/
theorem vl_nil {E : RE α} : EvR ρ aNil (.ok []) (A2 E) := fun e l => ⟨[], rfl, rfl⟩
theorem vl_c {f : DL.Env → Res D} {fs : DL.Env → Res (List D)} {r : Res α} {rs : Res (List α)} {E : RE α} (h : EvR ρ f r E) (t : EvR ρ fs rs (A2 E)) : EvR ρ (aCons f fs) (r.bind fun a => rs.bind fun b => .ok (a :: b)) (A2 E) := fun e l =>
  (h e l).bind fun a d h1 => (t e l).bind fun b ds h2 => .ok ⟨d, ds, rfl, h1, h2⟩
theorem vl_cp {f : DL.Env → Res D} {fs : DL.Env → Res (List D)} {a : α} {b : List α} {E : RE α} (h : EvR ρ f (.ok a) E) (t : EvR ρ fs (.ok b) (A2 E)) : EvR ρ (aCons f fs) (.ok (a :: b)) (A2 E) := vl_c h t
theorem v_tupT {fs : DL.Env → Res (List D)} {r : Res (List α)} {E : RE α} (h : EvR ρ fs r (A2 E)) : EvR ρ (eTup fs) r (eT E) := fun e l => by
  have := h e l
  unfold eTup
  cases r with
  | ok a => obtain ⟨d, e1, h1⟩ := this; rw [e1]; exact ⟨_, rfl, d, rfl, h1⟩
  | exc c fs' => rw [show fs e = _ from this]; rfl
  | bad => trivial
theorem v_lst {fs : DL.Env → Res (List D)} {r : Res (List α)} {E : RE α} (h : EvR ρ fs r (A2 E)) : EvR ρ (eLst fs) r (eL E) := fun e l => by
  have := h e l
  unfold eLst
  cases r with
  | ok a => obtain ⟨d, e1, h1⟩ := this; rw [e1]; exact ⟨_, rfl, d, rfl, h1⟩
  | exc c fs' => rw [show fs e = _ from this]; rfl
  | bad => trivial
/-- a call: what the def does on data of these readings -/
def CallR (F : List D → Res D) (Q : α → List D → Prop) (t : α → Res β) (E : RE β) : Prop := ∀ a ds, Q a ds → Rf (F ds) (t a) E
theorem v_call {F : List D → Res D} {fs : DL.Env → Res (List D)} {Q : α → List D → Prop} {t : α → Res β} {E : RE β} {r : Res α} (c : CallR F Q t E) (h : EvR ρ fs r Q) : EvR ρ (eCall F fs) (r.bind t) E := fun e l => (h e l).bind c
theorem v_callp {F : List D → Res D} {fs : DL.Env → Res (List D)} {Q : α → List D → Prop} {t : α → Res β} {E : RE β} {a : α} (c : CallR F Q t E) (h : EvR ρ fs (.ok a) Q) : EvR ρ (eCall F fs) (t a) E := fun e l => by
  obtain ⟨d, e1, h1⟩ := h e l
  unfold eCall
  rw [e1]
  exact c a d h1
/-! tests -/
theorem b_test {fa fb : DL.Env → Res D} {g : D → D → Res D} {r : Res Bool} (h : EvR ρ (eOp g fa fb) r eB) : EvR ρ (bTest g fa fb) r Tr := fun e l => by
  have := h e l
  unfold eOp at this
  unfold bTest
  have q : ∀ (x y : D), ((g x y).bind D.asB) = (g x y).bind D.asB := fun _ _ => rfl
  have ass : (fa e).bind (fun x => (fb e).bind fun y => (g x y).bind D.asB) = ((fa e).bind fun x => (fb e).bind fun y => g x y).bind D.asB := by
    cases fa e with
    | ok x => cases fb e <;> rfl
    | exc c fs => rfl
    | bad => rfl
  rw [ass]
  have z := this.bind (f := D.asB) (g := fun b => Res.ok b) (E' := Tr) fun b d hd => by rw [show d = _ from hd]; exact ⟨b, rfl, rfl⟩
  cases r <;> exact z
theorem b_truB {f : DL.Env → Res D} {r : Res Bool} (h : EvR ρ f r eB) : EvR ρ (bTruth f) r Tr := fun e l => by
  have := (h e l).bind (f := D.truth) (g := fun b => Res.ok b) (E' := Tr) fun b d hd => by rw [show d = _ from hd]; exact ⟨b, rfl, rfl⟩
  cases r <;> exact this
theorem b_or {fa fb : DL.Env → Res Bool} {ra rb : Res Bool} (ha : EvR ρ fa ra Tr) (hb : EvR ρ fb rb Tr) : EvR ρ (bOr fa fb) (ra.bind fun b => if b = true then .ok true else rb) Tr := fun e l =>
  (ha e l).bind fun a b h => by
    rw [show b = a from h]
    cases a
    · exact hb e l
    · exact ⟨true, rfl, rfl⟩
theorem b_not {fa : DL.Env → Res Bool} {ra : Res Bool} (ha : EvR ρ fa ra Tr) : EvR ρ (bNot fa) (ra.bind fun b => .ok (!b)) Tr := fun e l =>
  (ha e l).bind fun a b h => by rw [show b = a from h]; exact ⟨_, rfl, rfl⟩
/-! values of and, or, not -/
theorem v_and {fa fb : DL.Env → Res D} {ra rb : Res Bool} (ha : EvR ρ fa ra eB) (hb : EvR ρ fb rb eB) : EvR ρ (eAnd fa fb) (ra.bind fun b => if b = true then rb else .ok false) eB := fun e l =>
  (ha e l).bind fun a b h => by
    rw [show b = _ from h]
    cases a
    · exact ⟨_, rfl, rfl⟩
    · exact hb e l
theorem v_not {fa : DL.Env → Res D} {ra : Res Bool} (ha : EvR ρ fa ra eB) : EvR ρ (eNot fa) (ra.bind fun b => .ok (!b)) eB := fun e l =>
  (ha e l).bind fun a b h => by rw [show b = _ from h]; exact ⟨_, rfl, rfl⟩
theorem v_andP {fa fb : DL.Env → Res D} {P Q : Prop} [Decidable P] [Decidable Q] (ha : EvR ρ fa (.ok (decide P)) eB) (hb : EvR ρ fb (.ok (decide Q)) eB) : EvR ρ (eAnd fa fb) (.ok (decide (P ∧ Q))) eB := fun e l => by
  have := v_and ha hb e l
  rw [show (Res.ok (decide P)).bind (fun b => if b = true then Res.ok (decide Q) else .ok false) = .ok (decide (P ∧ Q)) by by_cases h : P <;> simp [h]] at this
  exact this
theorem v_notP {fa : DL.Env → Res D} {P : Prop} [Decidable P] (ha : EvR ρ fa (.ok (decide P)) eB) : EvR ρ (eNot fa) (.ok (decide (¬ P))) eB := fun e l => by
  have := v_not ha e l
  rw [show (Res.ok (decide P)).bind (fun b => .ok (!b)) = .ok (decide (¬ P)) by by_cases h : P <;> simp [h]] at this
  exact this
theorem v_P {fa : DL.Env → Res D} {b : Bool} (ha : EvR ρ fa (.ok b) eB) : EvR ρ fa (.ok (decide (b = true))) eB := by
  cases b <;> exact ha
end
end DL

/-! Typed readings: statements, loops, defs. -/
namespace DL
open PySem PySem.Spec PyProof.Rows L2
open PySem.Builtin.Int (intBits)

/-- how a turn of a loop ends -/
inductive Oc (S R : Type) where
  | nx (s : S)
  | bk (s : S)
  | rt (v : R)

/-- what a block does, told by r; P: what an end means -/
def JM {T : Type} (r : Res T) (P : T → Out → Prop) (o : Out) : Prop := match r with
  | .ok t => P t o
  | .exc c fs => ∃ e', o = .ex c fs e'
  | .bad => True
def J {T : Type} (ρ : KEnv) (b : DL.Env → Out) (r : Res T) (P : T → Out → Prop) : Prop := ∀ e, Le ρ e → JM r P (b e)
/-- a def's end -/
def PT {R : Type} (E : RE R) : R → Out → Prop := fun v o => ∃ d, E v d ∧ (o = .rt d ∨ o = .ro d ∨ ((∃ e, o = .nx e) ∧ d = .non))
/-- on to the next -/
def PN {S : Type} (ρ : S → KEnv) : S → Out → Prop := fun s o => ∃ e, o = .nx e ∧ Le (ρ s) e
/-- a turn's end -/
def PB {S : Type} (ρ : S → KEnv) : S → Out → Prop := fun s o => ∃ e, (o = .nx e ∨ o = .ct e) ∧ Le (ρ s) e
def PL {S R : Type} (ρ : S → KEnv) (E : RE R) : Oc S R → Out → Prop := fun t o => match t with
  | .nx s => ∃ e, (o = .nx e ∨ o = .ct e) ∧ Le (ρ s) e
  | .bk s => ∃ e, o = .bk e ∧ Le (ρ s) e
  | .rt v => ∃ d, E v d ∧ (o = .rt d ∨ o = .ro d)
/-- a loop's end -/
def PX {S R : Type} (ρ : S → KEnv) (E : RE R) : Oc S R → Out → Prop := fun t o => match t with
  | .nx s => ∃ e, o = .nx e ∧ Le (ρ s) e
  | .bk _ => False
  | .rt v => ∃ d, E v d ∧ (o = .rt d ∨ o = .ro d)
/-- a step that always goes on -/
def Go (ρ : KEnv) (b : DL.Env → Out) (ρ' : KEnv) : Prop := ∀ e, Le ρ e → ∃ e', b e = .nx e' ∧ Le ρ' e'
section
variable {T S R α β : Type} {ρ ρ' : KEnv} {a b c : DL.Env → Out} {r : Res T} {P : T → Out → Prop}
theorem j_go (h : Go ρ a ρ') (k : J ρ' b r P) : J ρ (sSeq a b) r P := fun e l => by
  obtain ⟨e', h1, h2⟩ := h e l
  have : sSeq a b e = b e' := by unfold sSeq; rw [h1]
  rw [this]
  exact k e' h2
theorem j_do {s : Res S} {ρs : S → KEnv} {k : S → Res T} (h : J ρ a s (PN ρs)) (q : ∀ x, J (ρs x) b (k x) P) : J ρ (sSeq a b) (s.bind k) P := fun e l => by
  have := h e l
  cases s with
  | ok x =>
    obtain ⟨e', h1, h2⟩ := this
    have : sSeq a b e = b e' := by unfold sSeq; rw [h1]
    rw [this]
    exact q x e' h2
  | exc cc fs => obtain ⟨e', h1⟩ := this; exact ⟨e', by unfold sSeq; rw [h1]⟩
  | bad => trivial
theorem j_assoc (h : J ρ (sSeq a (sSeq b c)) r P) : J ρ (sSeq (sSeq a b) c) r P := fun e l => by
  have : sSeq (sSeq a b) c e = sSeq a (sSeq b c) e := by unfold sSeq; cases a e <;> rfl
  rw [this]
  exact h e l
theorem j_skip (h : J ρ b r P) : J ρ (sSeq sSkip b) r P := fun e l => h e l
theorem j_if {al : List Nat} {ft : DL.Env → Res Bool} {rt : Res Bool} {ra rb : Res T} (hc : EvR ρ ft rt Tr) (ha : J (fzK al ρ) a ra P) (hb : J (fzK al ρ) b rb P) : J ρ (sIf al ft a b) (rt.bind fun z => if z = true then ra else rb) P := fun e l => by
  have := hc e l
  have f := l.fz al
  cases rt with
  | ok z =>
    obtain ⟨y, h1, h2⟩ := this
    have q : sIf al ft a b e = if y = true then a (fz al e) else b (fz al e) := by rw [sIf_app, h1]
    rw [q, show y = z from h2]
    cases z
    · exact hb _ f
    · exact ha _ f
  | exc cc fs => exact ⟨_, by rw [sIf_app, show ft e = _ from this]⟩
  | bad => trivial
theorem j_ifP {al : List Nat} {ft : DL.Env → Res Bool} {p : Prop} [Decidable p] {ra rb : Res T} (hc : EvR ρ ft (.ok (decide p)) Tr) (ha : J (fzK al ρ) a ra P) (hb : J (fzK al ρ) b rb P) : J ρ (sIf al ft a b) (if p then ra else rb) P := by
  have := j_if hc ha hb
  by_cases h : p
  · rw [if_pos h]; simpa [h] using this
  · rw [if_neg h]; simpa [h] using this
theorem seq_if (al : List Nat) (ft : DL.Env → Res Bool) : sSeq (sIf al ft a b) c = sIf al ft (sSeq a c) (sSeq b c) := by
  funext e
  rw [sSeq_app, sIf_app, sIf_app]
  cases ft e with
  | ok z => cases z <;> rfl
  | exc cc fs => rfl
  | bad => rfl
theorem j_ifs {al : List Nat} {ft : DL.Env → Res Bool} {rt : Res Bool} {ra rb : Res T} (hc : EvR ρ ft rt Tr) (ha : J (fzK al ρ) (sSeq a c) ra P) (hb : J (fzK al ρ) (sSeq b c) rb P) : J ρ (sSeq (sIf al ft a b) c) (rt.bind fun z => if z = true then ra else rb) P := by
  rw [seq_if]; exact j_if hc ha hb
theorem j_ifsP {al : List Nat} {ft : DL.Env → Res Bool} {p : Prop} [Decidable p] {ra rb : Res T} (hc : EvR ρ ft (.ok (decide p)) Tr) (ha : J (fzK al ρ) (sSeq a c) ra P) (hb : J (fzK al ρ) (sSeq b c) rb P) : J ρ (sSeq (sIf al ft a b) c) (if p then ra else rb) P := by
  rw [seq_if]; exact j_ifP hc ha hb
/-! ends -/
theorem j_ret {al : List Nat} {f : DL.Env → Res D} {x : Res R} {E : RE R} {g : R → T} (hP : ∀ v d, E v d → P (g v) (.rt d)) (h : EvR ρ f x E) : J ρ (sSeq (sRet al f) c) (x.bind fun v => .ok (g v)) P := fun e l => by
  have := h e l
  cases x with
  | ok v => obtain ⟨d, h1, h2⟩ := this; show P (g v) _; rw [sSeq_app, sRet_app, h1]; exact hP v d h2
  | exc cc fs => exact ⟨_, by rw [sSeq_app, sRet_app, show f e = _ from this]⟩
  | bad => trivial
theorem j_retT {al : List Nat} {f : DL.Env → Res D} {x : Res R} {E : RE R} (h : EvR ρ f x E) : J ρ (sSeq (sRet al f) c) x (PT E) := by
  have := j_ret (ρ := ρ) (c := c) (al := al) (g := fun v => v) (P := PT E) (fun v d hd => ⟨d, hd, .inl rfl⟩) h
  cases x <;> exact this
theorem j_retL {al : List Nat} {f : DL.Env → Res D} {x : Res R} {E : RE R} {ρs : S → KEnv} (h : EvR ρ f x E) : J ρ (sSeq (sRet al f) c) (x.bind fun v => .ok (.rt v)) (PL ρs E) := j_ret (fun v d hd => ⟨d, hd, .inl rfl⟩) h
theorem j_end {ρs : S → KEnv} {s : S} (h : Sb (ρs s) ρ) : J ρ sSkip (.ok s) (PN ρs) := fun e l => ⟨e, rfl, l.less h⟩
theorem j_endB {ρs : S → KEnv} {s : S} (h : Sb (ρs s) ρ) : J ρ sSkip (.ok s) (PB ρs) := fun e l => ⟨e, .inl rfl, l.less h⟩
theorem j_endL {ρs : S → KEnv} {E : RE R} {s : S} (h : Sb (ρs s) ρ) : J ρ sSkip (.ok (.nx s)) (PL ρs E) := fun e l => ⟨e, .inl rfl, l.less h⟩
/-- a loop that may return, and what comes behind it -/
def thenX (s : Res (Oc S R)) (m : R → T) (k : S → Res T) : Res T := s.bind fun o => match o with
  | .nx x => k x
  | .rt v => .ok (m v)
  | .bk _ => .bad
theorem j_x {s : Res (Oc S R)} {E : RE R} {ρs : S → KEnv} {k : S → Res T} {m : R → T} (hP : ∀ v d o, E v d → (o = .rt d ∨ o = .ro d) → P (m v) o) (h : J ρ a s (PX ρs E)) (q : ∀ x, J (ρs x) b (k x) P) : J ρ (sSeq a b) (thenX s m k) P := fun e l => by
  have := h e l
  unfold thenX
  cases s with
  | ok x =>
    cases x with
    | nx x =>
      obtain ⟨e', h1, h2⟩ := this
      have : sSeq a b e = b e' := by unfold sSeq; rw [h1]
      show JM (k x) P (sSeq a b e)
      rw [this]
      exact q x e' h2
    | rt v =>
      obtain ⟨d, h1, h2⟩ := this
      show P (m v) (sSeq a b e)
      have : sSeq a b e = a e := by unfold sSeq; rcases h2 with h2 | h2 <;> rw [h2]
      rw [this]
      exact hP v d _ h1 h2
    | bk x => exact this.elim
  | exc cc fs => obtain ⟨e', h1⟩ := this; exact ⟨e', by unfold sSeq; rw [h1]⟩
  | bad => trivial
theorem j_xT {s : Res (Oc S R)} {E : RE R} {ρs : S → KEnv} {k : S → Res R} (h : J ρ a s (PX ρs E)) (q : ∀ x, J (ρs x) b (k x) (PT E)) : J ρ (sSeq a b) (thenX s (fun v => v) k) (PT E) :=
  j_x (fun v d o hd ho => ⟨d, hd, ho.imp (fun z => z) .inl⟩) h q
/-! simple statements -/
theorem g_set {al : List Nat} {i : Nat} {f : DL.Env → Res D} {E : RE α} {x : α} (h : EvR ρ f (.ok x) E) : Go ρ (sSet al i f) ((fzK al ρ).set i (some (sh E x))) := fun e l => by
  obtain ⟨d, h1, h2⟩ := h e l
  exact ⟨_, by rw [sSet_app, h1], (l.fz al).set i ⟨h2, rfl⟩⟩
theorem g_setF {al : List Nat} {i : Nat} {f : DL.Env → Res D} {E : RE α} {x : α} (h : EvR ρ f (.ok x) E) : Go ρ (sSetF al i f) ((fzK al ρ).set i (some (ow E x))) := fun e l => by
  obtain ⟨d, h1, h2⟩ := h e l
  exact ⟨_, by rw [sSetF_app, h1], (l.fz al).set i ⟨h2, rfl⟩⟩
theorem d_set {al : List Nat} {i : Nat} {f : DL.Env → Res D} {E : RE α} {x : Res α} (h : EvR ρ f x E) : J ρ (sSet al i f) x (PN fun v => (fzK al ρ).set i (some (sh E v))) := fun e l => by
  have := h e l
  cases x with
  | ok v => obtain ⟨d, h1, h2⟩ := this; exact ⟨_, by rw [sSet_app, h1], (l.fz al).set i ⟨h2, rfl⟩⟩
  | exc cc fs => exact ⟨_, by rw [sSet_app, show f e = _ from this]⟩
  | bad => trivial
theorem d_setF {al : List Nat} {i : Nat} {f : DL.Env → Res D} {E : RE α} {x : Res α} (h : EvR ρ f x E) : J ρ (sSetF al i f) x (PN fun v => (fzK al ρ).set i (some (ow E v))) := fun e l => by
  have := h e l
  cases x with
  | ok v => obtain ⟨d, h1, h2⟩ := this; exact ⟨_, by rw [sSetF_app, h1], (l.fz al).set i ⟨h2, rfl⟩⟩
  | exc cc fs => exact ⟨_, by rw [sSetF_app, show f e = _ from this]⟩
  | bad => trivial
/-- a pattern takes what is read as E, the names known as ρ then as ρ' -/
def BindR (p : Pat) (E : RE α) (x : α) (ρ ρ' : KEnv) : Prop := ∀ d e, E x d → Le ρ e → ∃ e', p.bind d e = .ok e' ∧ Le ρ' e'
theorem p_nm {i : Nat} {E : RE α} {x : α} : BindR (.nm i) E x ρ (ρ.set i (some (sh E x))) := fun d e h l => ⟨_, rfl, l.set i ⟨h, rfl⟩⟩
/-- tuples made of items (never a module's constant) -/
def eQ {α : Type} (Q : α → List D → Prop) : RE α := fun a d => ∃ ds, d = .tup ds ∧ Q a ds
/-! ### loops -/
def forR {α S : Type} : List α → S → (α → S → Res S) → Res S
  | [], s, _ => .ok s
  | a :: l, s, f => (f a s).bind fun s' => forR l s' f
def forX {α S R : Type} : List α → S → (α → S → Res (Oc S R)) → Res (Oc S R)
  | [], s, _ => .ok (.nx s)
  | a :: l, s, f => (f a s).bind fun o => match o with
    | .nx s' => forX l s' f
    | .bk s' => .ok (.nx s')
    | .rt v => .ok (.rt v)
theorem turns_R {p : Pat} {E : RE α} {ρs : S → KEnv} {ρb : α → S → KEnv} {f : α → S → Res S} (hp : ∀ x s, BindR p E x (ρs s) (ρb x s)) (hb : ∀ x s, J (ρb x s) b (f x s) (PB ρs)) :
    ∀ {l : List α} {ds : List D} {s : S} {e : DL.Env}, A2 E l ds → Le (ρs s) e → JM (forR l s f) (PN ρs) (turns p b ds e)
  | [], ds, s, e, h, l => by rw [show ds = [] from h]; exact ⟨e, rfl, l⟩
  | x :: xs, _, s, e, ⟨d, r, rfl, h1, h2⟩, l => by
    obtain ⟨e1, a1, a2⟩ := hp x s d e h1 l
    have := hb x s e1 a2
    unfold forR turns
    rw [a1]
    cases q : f x s with
    | ok s' =>
      rw [q] at this
      obtain ⟨e2, b1, b2⟩ := this
      have ih := turns_R hp hb (s := s') h2 b2
      rw [Res.bind_ok]
      rcases b1 with b1 | b1 <;> (dsimp only; rw [b1]; exact ih)
    | exc c fs => rw [q] at this; obtain ⟨e2, b1⟩ := this; exact ⟨e2, by dsimp only; rw [b1]⟩
    | bad => trivial
theorem d_for {al : List Nat} {p : Pat} {fi : DL.Env → Res (List D)} {E : RE α} {xs : Res (List α)} {ρs : S → KEnv} {ρb : α → S → KEnv} {f : α → S → Res S} {s : S}
    (hi : EvR ρ fi xs (A2 E)) (h0 : Sb (ρs s) (fzK al ρ)) (hp : ∀ x s, BindR p E x (ρs s) (ρb x s)) (hb : ∀ x s, J (ρb x s) b (f x s) (PB ρs)) : J ρ (sFor al p fi b) (xs.bind fun l => forR l s f) (PN ρs) := fun e l => by
  have := hi e l
  cases xs with
  | ok xs =>
    obtain ⟨ds, h1, h2⟩ := this
    have t := turns_R hp hb h2 ((l.fz al).less h0)
    rw [sFor_app, h1]
    exact t
  | exc c fs => exact ⟨_, by rw [sFor_app, show fi e = _ from this]⟩
  | bad => trivial
theorem d_forP {al : List Nat} {p : Pat} {fi : DL.Env → Res (List D)} {E : RE α} {xs : List α} {ρs : S → KEnv} {ρb : α → S → KEnv} {f : α → S → Res S} {s : S}
    (hi : EvR ρ fi (.ok xs) (A2 E)) (h0 : Sb (ρs s) (fzK al ρ)) (hp : ∀ x s, BindR p E x (ρs s) (ρb x s)) (hb : ∀ x s, J (ρb x s) b (f x s) (PB ρs)) : J ρ (sFor al p fi b) (forR xs s f) (PN ρs) := d_for hi h0 hp hb
theorem turns_X {p : Pat} {E : RE α} {E' : RE R} {ρs : S → KEnv} {ρb : α → S → KEnv} {f : α → S → Res (Oc S R)} (hp : ∀ x s, BindR p E x (ρs s) (ρb x s)) (hb : ∀ x s, J (ρb x s) b (f x s) (PL ρs E')) :
    ∀ {l : List α} {ds : List D} {s : S} {e : DL.Env}, A2 E l ds → Le (ρs s) e → JM (forX l s f) (PX ρs E') (turns p b ds e)
  | [], ds, s, e, h, l => by rw [show ds = [] from h]; exact ⟨e, rfl, l⟩
  | x :: xs, _, s, e, ⟨d, r, rfl, h1, h2⟩, l => by
    obtain ⟨e1, a1, a2⟩ := hp x s d e h1 l
    have := hb x s e1 a2
    unfold forX turns
    rw [a1]
    cases q : f x s with
    | ok o =>
      rw [q] at this
      cases o with
      | nx s' =>
        obtain ⟨e2, b1, b2⟩ := this
        have ih := turns_X hp hb (s := s') h2 b2
        rw [Res.bind_ok]
        rcases b1 with b1 | b1 <;> (dsimp only; rw [b1]; exact ih)
      | bk s' =>
        obtain ⟨e2, b1, b2⟩ := this
        rw [Res.bind_ok]
        dsimp only
        rw [b1]
        exact ⟨e2, rfl, b2⟩
      | rt v =>
        obtain ⟨d, b1, b2⟩ := this
        rw [Res.bind_ok]
        dsimp only
        rcases b2 with b2 | b2 <;> rw [b2]
        · exact ⟨d, b1, .inl rfl⟩
        · exact ⟨d, b1, .inr rfl⟩
    | exc c fs => rw [q] at this; obtain ⟨e2, b1⟩ := this; exact ⟨e2, by dsimp only; rw [b1]⟩
    | bad => trivial
theorem d_forX {al : List Nat} {p : Pat} {fi : DL.Env → Res (List D)} {E : RE α} {E' : RE R} {xs : Res (List α)} {ρs : S → KEnv} {ρb : α → S → KEnv} {f : α → S → Res (Oc S R)} {s : S}
    (hi : EvR ρ fi xs (A2 E)) (h0 : Sb (ρs s) (fzK al ρ)) (hp : ∀ x s, BindR p E x (ρs s) (ρb x s)) (hb : ∀ x s, J (ρb x s) b (f x s) (PL ρs E')) : J ρ (sFor al p fi b) (xs.bind fun l => forX l s f) (PX ρs E') := fun e l => by
  have := hi e l
  cases xs with
  | ok xs =>
    obtain ⟨ds, h1, h2⟩ := this
    have t := turns_X hp hb h2 ((l.fz al).less h0)
    rw [sFor_app, h1]
    exact t
  | exc c fs => exact ⟨_, by rw [sFor_app, show fi e = _ from this]⟩
  | bad => trivial
/-! while -/
/-! ### comprehensions -/
/-- so long that a list of them can be made -/
def Fits (n : Nat) : Prop := n ≤ sizeLine
def mapR {α β : Type} : List α → (α → Res β) → Res (List β)
  | [], _ => .ok []
  | a :: l, f => (f a).bind fun y => (mapR l f).bind fun ys => .ok (y :: ys)
def filR {α β : Type} : List α → (α → Res Bool) → (α → Res β) → Res (List β)
  | [], _, _ => .ok []
  | a :: l, c, f => (c a).bind fun z => if z = true then (f a).bind fun y => (filR l c f).bind fun ys => .ok (y :: ys) else filR l c f
/-- errors within a comprehension are not told -/
def Res.noX {α : Type} : Res α → Res α
  | .exc _ _ => .bad
  | r => r
open Classical in
noncomputable def compR {α β : Type} (l : List α) (f : α → Res β) : Res (List β) := if Fits l.length then (mapR l f).noX else .bad
open Classical in
noncomputable def compF {α β : Type} (l : List α) (c : α → Res Bool) (f : α → Res β) : Res (List β) := if Fits l.length then (filR l c f).noX else .bad
theorem compL_R {p : Pat} {ft : DL.Env → Res Bool} {fe : DL.Env → Res D} {E : RE α} {E' : RE β} {ρ : KEnv} {ρb : α → KEnv} {c : α → Res Bool} {f : α → Res β} (hp : ∀ x, BindR p E x ρ (ρb x)) (hc : ∀ x, EvR (ρb x) ft (c x) Tr) (he : ∀ x, EvR (ρb x) fe (f x) E') :
    ∀ {l : List α} {ds : List D} {e : DL.Env} {ys : List β}, A2 E l ds → Le ρ e → filR l c f = .ok ys → ∃ es, compL e p ft fe ds = .ok es ∧ A2 E' ys es
  | [], ds, e, ys, h, l, q => by
    rw [show ds = [] from h]
    cases (show Res.ok [] = Res.ok ys from q)
    exact ⟨[], rfl, rfl⟩
  | x :: xs, _, e, ys, ⟨d, r, rfl, h1, h2⟩, l, q => by
    obtain ⟨e1, a1, a2⟩ := hp x d e h1 l
    have b1 := hc x e1 a2
    unfold filR at q
    unfold compL
    rw [a1]
    cases hz : c x with
    | ok z =>
      rw [hz, Res.bind_ok] at q
      rw [hz] at b1
      obtain ⟨z', c1, c2⟩ := b1
      dsimp only
      rw [c1, show z' = z from c2]
      cases z with
      | false =>
        rw [if_neg (by simp)] at q
        exact compL_R hp hc he h2 l q
      | true =>
        rw [if_pos rfl] at q
        have b2 := he x e1 a2
        cases hy : f x with
        | ok y =>
          rw [hy, Res.bind_ok] at q
          rw [hy] at b2
          obtain ⟨y', d1, d2⟩ := b2
          cases hr : filR xs c f with
          | ok zs =>
            rw [hr, Res.bind_ok] at q
            cases q
            obtain ⟨es, f1, f2⟩ := compL_R hp hc he h2 l hr
            exact ⟨y' :: es, by dsimp only; rw [d1]; dsimp only; rw [f1]; rfl, y', es, rfl, d2, f2⟩
          | exc cc fs => rw [hr] at q; cases q
          | bad => rw [hr] at q; cases q
        | exc cc fs => rw [hy] at q; cases q
        | bad => rw [hy] at q; cases q
    | exc cc fs => rw [hz] at q; cases q
    | bad => rw [hz] at q; cases q
theorem filR_yes (f : α → Res β) : ∀ l : List α, filR l (fun _ => .ok true) f = mapR l f
  | [] => rfl
  | a :: l => by
    unfold filR mapR
    rw [Res.bind_ok, if_pos rfl, filR_yes f l]
theorem v_compF {own : List Nat} {p : Pat} {fi : DL.Env → Res (List D)} {ft : DL.Env → Res Bool} {fe : DL.Env → Res D} {E : RE α} {E' : RE β} {xs : Res (List α)} {ρb : α → KEnv} {c : α → Res Bool} {f : α → Res β} (hi : EvR ρ fi xs (A2 E))
    (hp : ∀ x, BindR p E x (wipeK ρ own) (ρb x)) (hc : ∀ x, EvR (ρb x) ft (c x) Tr) (he : ∀ x, EvR (ρb x) fe (f x) E') : EvR ρ (eComp own p fi ft fe) (xs.bind fun l => compF l c f) (eL E') := fun e l => by
  unfold eComp
  refine (hi e l).bind fun xs ds h => ?_
  unfold compF
  by_cases hl : Fits xs.length
  · rw [if_pos hl]
    cases q : filR xs c f with
    | ok ys =>
      obtain ⟨es, h1, h2⟩ := compL_R hp hc he h (l.wipe own) q
      rw [if_pos (by rw [A2.length h]; exact hl), h1]
      exact ⟨_, rfl, es, rfl, h2⟩
    | exc cc fs => trivial
    | bad => trivial
  · rw [if_neg hl]; trivial
theorem v_comp {own : List Nat} {p : Pat} {fi : DL.Env → Res (List D)} {fe : DL.Env → Res D} {E : RE α} {E' : RE β} {xs : Res (List α)} {ρb : α → KEnv} {f : α → Res β} (hi : EvR ρ fi xs (A2 E))
    (hp : ∀ x, BindR p E x (wipeK ρ own) (ρb x)) (he : ∀ x, EvR (ρb x) fe (f x) E') : EvR ρ (eComp own p fi bYes fe) (xs.bind fun l => compR l f) (eL E') := by
  have := v_compF (c := fun _ => .ok true) hi hp (fun x e l => ⟨true, rfl, rfl⟩) he
  have q : (fun l => compF l (fun _ => .ok true) f) = fun l => compR l f := by
    funext l
    unfold compF compR
    rw [filR_yes]
  rw [q] at this
  exact this
theorem v_compP {own : List Nat} {p : Pat} {fi : DL.Env → Res (List D)} {fe : DL.Env → Res D} {E : RE α} {E' : RE β} {xs : List α} {ρb : α → KEnv} {f : α → Res β} (hi : EvR ρ fi (.ok xs) (A2 E))
    (hp : ∀ x, BindR p E x (wipeK ρ own) (ρb x)) (he : ∀ x, EvR (ρb x) fe (f x) E') : EvR ρ (eComp own p fi bYes fe) (compR xs f) (eL E') := v_comp hi hp he
/-! ### defs -/
theorem Le.rep : ∀ n, Le (List.replicate n none) (List.replicate n none)
  | 0 => rfl
  | n + 1 => ⟨none, List.replicate n none, rfl, fun P h => (by cases h), Le.rep n⟩
def LeA (ds : List D) (ρ : KEnv) : Prop := A2 (fun (r : Option Kn) (d : D) => ∀ P, r = some P → P d false) ρ ds
theorem LeA.nil : LeA [] [] := rfl
theorem LeA.cons {E : RE α} {x : α} {d : D} {ds : List D} {ρ : KEnv} (h : E x d) (t : LeA ds ρ) : LeA (d :: ds) (some (sh E x) :: ρ) := ⟨d, ds, rfl, fun P hP => by cases hP; exact ⟨h, rfl⟩, t⟩
theorem LeA.le : ∀ {ds : List D} {ρ : KEnv} {n : Nat}, LeA ds ρ → Le (ρ ++ List.replicate n none) (ds.map (fun d => some (d, false)) ++ List.replicate n none)
  | ds, [], n, h => by rw [show ds = [] from h]; exact Le.rep n
  | _, r :: ρ, n, ⟨d, ds, rfl, h, t⟩ => ⟨some (d, false), _, rfl, fun P hP => ⟨d, false, rfl, h P hP⟩, LeA.le t⟩
theorem r_def {n m k : Nat} {fb : DL.Env → Out} {ds : List D} {x : Res R} {E : RE R} (h : LeA ds ρ) (hk : m - n = k) (j : J (ρ ++ List.replicate k none) fb x (PT E)) : Rf (runDef n m fb ds) x E := by
  subst hk
  have := j _ h.le
  unfold runDef env0
  cases x with
  | ok v =>
    obtain ⟨d, h1, h2⟩ := this
    rcases h2 with h2 | h2 | ⟨⟨e, h2⟩, h3⟩
    · rw [h2]; exact ⟨d, rfl, h1⟩
    · rw [h2]; exact ⟨d, rfl, h1⟩
    · rw [h2]; subst h3; exact ⟨_, rfl, h1⟩
  | exc c fs => obtain ⟨e', h2⟩ := this; rw [h2]; rfl
  | bad => trivial
end
end DL

/-! Typed readings: the operations. -/
namespace DL
open PySem PySem.Spec PyProof.Rows L2
open PySem.Builtin.Int (intBits)

/-! ### whole numbers -/
def MulOk (i j : Int) : Prop := intBits i + intBits j ≤ big
open Classical in
noncomputable def mulR (i j : Int) : Res Int := if MulOk i j then .ok (i * j) else .bad
open Classical in
noncomputable def modR (i j : Int) : Res Int := if j ≠ 0 then .ok (i.fmod j) else .bad
theorem mulR_ok {n m : Nat} {i j : Int} (h : Sm n i) (k : Sm m j) (l : n + m ≤ big) : mulR i j = .ok (i * j) := if_pos (h.two k l)
theorem modR_pos {i j : Int} (h : 0 < j) : modR i j = .ok (i % j) := by
  unfold modR
  rw [if_pos (by omega), Int.fmod_eq_emod_of_nonneg _ (by omega)]
section
variable {α β γ : Type}
theorem o_add (a b : Int) : ∀ x y, eI a x → eI b y → Rf (dAdd x y) (.ok (a + b)) eI := by rintro _ _ rfl rfl; exact ⟨_, rfl, rfl⟩
theorem o_sub (a b : Int) : ∀ x y, eI a x → eI b y → Rf (dSub x y) (.ok (a - b)) eI := by rintro _ _ rfl rfl; exact ⟨_, rfl, rfl⟩
theorem o_mul (a b : Int) : ∀ x y, eI a x → eI b y → Rf (dMul x y) (mulR a b) eI := by
  rintro _ _ rfl rfl
  unfold mulR
  by_cases h : MulOk a b
  · rw [if_pos h]; exact ⟨_, if_pos h, rfl⟩
  · rw [if_neg h]; trivial
theorem o_mod (a b : Int) : ∀ x y, eI a x → eI b y → Rf (dMod x y) (modR a b) eI := by
  rintro _ _ rfl rfl
  unfold modR
  by_cases h : b ≠ 0
  · rw [if_pos h]; exact ⟨_, if_pos h, rfl⟩
  · rw [if_neg h]; trivial
/-- by a written number above nought -/
theorem o_divL {b : Int} (a : Int) (h : 0 < b) (k : b < 18446744073709551616) : ∀ x y, eI a x → eI b y → Rf (dDiv x y) (.ok (a / b)) eI := by
  rintro _ _ rfl rfl; exact ⟨_, dDiv_lit _ _ h k, rfl⟩
theorem o_modL {b : Int} (a : Int) (h : 0 < b) : ∀ x y, eI a x → eI b y → Rf (dMod x y) (.ok (a % b)) eI := by
  rintro _ _ rfl rfl; exact ⟨_, dMod_lit _ _ h, rfl⟩
theorem o_powL {a b c : Int} (h : dPow (.int a) (.int b) = .ok (.int c)) : ∀ x y, eI a x → eI b y → Rf (dPow x y) (.ok c) eI := by
  rintro _ _ rfl rfl; exact ⟨_, h, rfl⟩
theorem o_lt (a b : Int) : ∀ x y, eI a x → eI b y → Rf (dLt x y) (.ok (decide (a < b))) eB := by rintro _ _ rfl rfl; exact ⟨_, dLt_int a b, rfl⟩
theorem o_gt (a b : Int) : ∀ x y, eI a x → eI b y → Rf (dGt x y) (.ok (decide (b < a))) eB := by rintro _ _ rfl rfl; exact ⟨_, dGt_int a b, rfl⟩
theorem o_abs (a : Int) : ∀ x, eI a x → Rf (dAbs x) (.ok (a.natAbs : Int)) eI := by rintro _ rfl; exact ⟨_, dAbs_int a, rfl⟩
/-! ### equality -/
structure EqE {α : Type} [DecidableEq α] (E : RE α) (n : Nat) : Prop where
  pl : ∀ a d, E a d → d.pl n = true
  beq : ∀ a b x y, E a x → E b y → PyData.eqv x.py y.py = decide (a = b)
structure EqQ {α : Type} [DecidableEq α] (Q : α → List D → Prop) (n : Nat) : Prop where
  pl : ∀ a d, Q a d → D.pls d n = true
  beq : ∀ a b x y, Q a x → Q b y → PyData.eqvAll (D.pys x) (D.pys y) = decide (a = b)
theorem EqE.int (n : Nat) : EqE eI n := ⟨by rintro a _ rfl; rfl, by
  rintro a b _ _ rfl rfl
  simp [D.py, PyData.eqv]
  exact Bool.eq_iff_iff.mpr (by simp)⟩
theorem EqE.bl (n : Nat) : EqE eB n := ⟨by rintro a _ rfl; rfl, by
  rintro a b _ _ rfl rfl
  cases a <;> cases b <;> rfl⟩
theorem EqE.row (n : Nat) : EqE eR (n + 1) := ⟨by rintro a _ rfl; exact ans_pl a n, by rintro a b _ _ rfl rfl; exact beq_ans a b⟩
theorem a2_pls [DecidableEq α] {E : RE α} {n : Nat} (h : EqE E n) : ∀ {l : List α} {ds : List D}, A2 E l ds → D.pls ds n = true
  | [], _, e => by rw [show _ = [] from e]; rfl
  | a :: l, _, ⟨d, r, rfl, x, y⟩ => by rw [D.pls, h.pl a d x, a2_pls h y]; rfl
theorem a2_eqvs [DecidableEq α] {E : RE α} {n : Nat} (h : EqE E n) : ∀ {l l' : List α} {ds es : List D}, A2 E l ds → A2 E l' es → PyData.eqvAll (D.pys ds) (D.pys es) = decide (l = l')
  | [], [], _, _, e, f => by rw [show _ = [] from e, show _ = [] from f]; simp [D.pys, PyData.eqvAll]
  | [], _ :: _, _, _, e, ⟨d, r, rfl, _, _⟩ => by rw [show _ = [] from e]; simp [D.pys, PyData.eqvAll]
  | _ :: _, [], _, _, ⟨d, r, rfl, _, _⟩, f => by rw [show _ = [] from f]; simp [D.pys, PyData.eqvAll]
  | a :: l, b :: l', _, _, ⟨d, r, rfl, x1, x2⟩, ⟨d', r', rfl, y1, y2⟩ => by
    simp only [D.pys, PyData.eqvAll, h.beq a b d d' x1 y1, a2_eqvs h x2 y2]
    by_cases h1 : a = b <;> by_cases h2 : l = l' <;> simp [h1, h2]
theorem EqE.lst [DecidableEq α] {E : RE α} {n : Nat} (h : EqE E n) : EqE (eL E) (n + 1) := ⟨by
  rintro a _ ⟨ds, rfl, r⟩; exact a2_pls h r, by
  rintro a b _ _ ⟨ds, rfl, r⟩ ⟨es, rfl, s⟩
  rw [D.py, D.py, PyData.eqv]; exact a2_eqvs h r s⟩
theorem EqE.tup [DecidableEq α] {E : RE α} {n : Nat} (h : EqE E n) : EqE (eT E) (n + 1) := ⟨by
  rintro a _ ⟨ds, rfl, r⟩; exact a2_pls h r, by
  rintro a b _ _ ⟨ds, rfl, r⟩ ⟨es, rfl, s⟩
  rw [D.py, D.py, PyData.eqv]; exact a2_eqvs h r s⟩
theorem EqQ.c [DecidableEq α] [DecidableEq β] {E : RE α} {Q : β → List D → Prop} {n : Nat} (h : EqE E n) (k : EqQ Q n) : EqQ (qC E Q) n := ⟨by
  rintro a _ ⟨d, r, rfl, h1, h2⟩; simp [D.pls, h.pl _ d h1, k.pl _ r h2], by
  rintro a b _ _ ⟨d, r, rfl, h1, h2⟩ ⟨d', r', rfl, h3, h4⟩
  simp only [D.pys, PyData.eqvAll, h.beq _ _ d d' h1 h3, k.beq _ _ r r' h2 h4]
  obtain ⟨a1, a2⟩ := a
  obtain ⟨b1, b2⟩ := b
  by_cases h1 : a1 = b1 <;> by_cases h2 : a2 = b2 <;> simp [h1, h2]⟩
theorem dEq_of {x y : D} {b : Bool} (h : x.pl 60 = true) (k : y.pl 60 = true) (e : PyData.eqv x.py y.py = b) : dEq x y = .ok (.bl b) := by
  cases x with
  | str s =>
    cases y with
    | str t =>
      subst e
      simp [dEq, D.py, PyData.eqv]
      exact Bool.eq_iff_iff.mpr (by simp)
    | _ => simp only [dEq]; rw [if_pos ⟨h, k⟩, D.beq, e]
  | _ => simp only [dEq]; rw [if_pos ⟨h, k⟩, D.beq, e]
theorem dNe_of {x y : D} {b : Bool} (h : x.pl 60 = true) (k : y.pl 60 = true) (e : PyData.eqv x.py y.py = b) : dNe x y = .ok (.bl (!b)) := by
  cases x with
  | str s =>
    cases y with
    | str t =>
      subst e
      simp [dNe, D.py, PyData.eqv]
      exact Bool.eq_iff_iff.mpr (by simp)
    | _ => simp only [dNe]; rw [if_pos ⟨h, k⟩, D.beq, e]
  | _ => simp only [dNe]; rw [if_pos ⟨h, k⟩, D.beq, e]
theorem o_eq [DecidableEq α] {E : RE α} (h : EqE E 60) (a b : α) : ∀ x y, E a x → E b y → Rf (dEq x y) (.ok (decide (a = b))) eB := fun x y hx hy =>
  ⟨_, dEq_of (h.pl a x hx) (h.pl b y hy) (h.beq a b x y hx hy), rfl⟩
theorem o_ne [DecidableEq α] {E : RE α} (h : EqE E 60) (a b : α) : ∀ x y, E a x → E b y → Rf (dNe x y) (.ok (decide (a ≠ b))) eB := fun x y hx hy =>
  ⟨_, dNe_of (h.pl a x hx) (h.pl b y hy) (h.beq a b x y hx hy), by simp [eB]⟩
/-! ### raw data -/
def asIs : List D → Res (List Int)
  | [] => .ok []
  | .int i :: r => (asIs r).bind fun l => .ok (i :: l)
  | _ => .bad
def D.asR : D → Res (List Int)
  | .tup xs => asIs xs
  | _ => .bad
@[simp] theorem asIs_ints : ∀ l : List Int, asIs (l.map D.int) = .ok l
  | [] => rfl
  | i :: l => by rw [List.map_cons, asIs, asIs_ints l]; rfl
@[simp] theorem asR_ans (l : List Int) : D.asR (ans l) = .ok l := asIs_ints l
section
variable {ρ : KEnv} {f : DL.Env → Res D} {r : Res D}
end
/-! ### lists and tuples -/
def getL {α : Type} (l : List α) (i : Int) : Res α := match atI l i with
  | some a => .ok a
  | none => .bad
theorem atI_A2 {E : RE α} {l : List α} {ds : List D} (h : A2 E l ds) {i : Int} {a : α} (q : atI l i = some a) : ∃ d, atI ds i = some d ∧ E a d := by
  unfold atI at q ⊢
  rw [h.length]
  cases k : ixN l.length i with
  | none => rw [k] at q; cases q
  | some j => rw [k] at q; exact h.get q
theorem o_ixA {x : D} (h : ∀ t kvs, x ≠ .dct t kvs) (y : D) : dIxA x y = dIx x y := by
  unfold dIxA
  cases x with
  | dct t kvs => exact absurd rfl (h t kvs)
  | _ => rfl
theorem o_ixL {E : RE α} (l : List α) (i : Int) : ∀ x y, eL E l x → eI i y → Rf (dIx x y) (getL l i) E := by
  rintro _ _ ⟨ds, rfl, r⟩ rfl
  unfold getL
  cases q : atI l i with
  | none => trivial
  | some a => obtain ⟨d, h1, h2⟩ := atI_A2 r q; exact ⟨d, by simp [dIx, h1], h2⟩
theorem o_ixAL {E : RE α} (l : List α) (i : Int) : ∀ x y, eL E l x → eI i y → Rf (dIxA x y) (getL l i) E := fun x y h k => by
  rw [o_ixA (by obtain ⟨ds, rfl, r⟩ := h; intros; simp)]
  exact o_ixL l i x y h k
@[simp] theorem getL_zero (a : α) (l : List α) : getL (a :: l) 0 = .ok a := by simp [getL, atI, ixN]
theorem getL_nat {l : List α} {i : Nat} {a : α} (h : l[i]? = some a) : getL l (i : Int) = .ok a := by
  unfold getL
  rw [atI_nat h]
/-- some item stands at every place, told from either end -/
theorem getL_mem {l : List α} {i : Int} (h : -(l.length : Int) ≤ i) (k : i < l.length) : ∃ a ∈ l, getL l i = .ok a := by
  obtain ⟨j, a, b⟩ := ixN_of h k
  exact ⟨l[j], List.getElem_mem _, by simp [getL, atI, a, b]⟩
theorem o_lenL {E : RE α} (l : List α) : ∀ x, eL E l x → Rf (dLen x) (.ok (l.length : Int)) eI := by rintro _ ⟨ds, rfl, r⟩; exact ⟨_, rfl, by rw [← r.length]; rfl⟩
theorem o_tupL {E : RE α} (l : List α) : ∀ x, eL E l x → Rf (dTuple x) (.ok l) (eT E) := by rintro _ ⟨ds, rfl, r⟩; exact ⟨_, rfl, ds, rfl, r⟩
theorem o_tupLR (l : List Int) : ∀ x, eL eI l x → Rf (dTuple x) (.ok l) eR := by rintro _ ⟨ds, rfl, r⟩; exact ⟨_, rfl, by rw [A2.fn.mp r]; rfl⟩
theorem o_sum (l : List Int) : ∀ x, eL eI l x → Rf (dSum x) (.ok l.sum) eI := by rintro _ ⟨ds, rfl, r⟩; rw [A2.fn.mp r]; exact ⟨_, dSum_ints l, rfl⟩
open Classical in
noncomputable def sortKR (l : List (List Int)) : Res (List (List Int)) := if Fits l.length then .ok (sortK l) else .bad
theorem sort_K (l : List (List Int)) {x : D} (h : x.items = some (rowsD l)) : Rf (dSorted x) (sortKR l) (eL eR) := by
  unfold sortKR
  by_cases k : Fits l.length
  · rw [if_pos k]; exact ⟨_, sorted_rows k h, _, rfl, A2.fn.mpr rfl⟩
  · rw [if_neg k]; trivial
theorem o_sortLK (l : List (List Int)) : ∀ x, eL eR l x → Rf (dSorted x) (sortKR l) (eL eR) := by rintro _ ⟨ds, rfl, r⟩; exact sort_K l (by rw [A2.fn.mp r]; rfl)
theorem o_sortTK (l : List (List Int)) : ∀ x, eT eR l x → Rf (dSorted x) (sortKR l) (eL eR) := by rintro _ ⟨ds, rfl, r⟩; exact sort_K l (by rw [A2.fn.mp r]; rfl)
open Classical in
noncomputable def catR {α : Type} (a b : List α) : Res (List α) := if Fits (a.length + b.length) then .ok (a ++ b) else .bad
theorem rf_cat {E : RE α} {a b : List α} {ds es : List D} (h : A2 E a ds) (k : A2 E b es) {x : Res D} {C : List D → D} (hx : ds.length + es.length ≤ sizeLine → x = .ok (C (ds ++ es))) {E' : RE (List α)} (hc : ∀ l ds, A2 E l ds → E' l (C ds)) : Rf x (catR a b) E' := by
  unfold catR
  by_cases q : Fits (a.length + b.length)
  · rw [if_pos q]; exact ⟨_, hx (by rw [h.length, k.length]; exact q), hc _ _ (h.append k)⟩
  · rw [if_neg q]; trivial
theorem o_catT {E : RE α} (a b : List α) : ∀ x y, eT E a x → eT E b y → Rf (dAdd x y) (catR a b) (eT E) := by rintro _ _ ⟨ds, rfl, r⟩ ⟨es, rfl, s⟩; exact rf_cat (C := D.tup) r s (fun h => if_pos h) fun l ds h => ⟨ds, rfl, h⟩
theorem catR_ok {a b : List α} (h : a.length + b.length ≤ 10000000) : catR a b = .ok (a ++ b) := if_pos (show _ ≤ sizeLine by rw [PySem.sizeLine_eq]; omega)
section
variable {ρ : KEnv} {f g : DL.Env → Res D}
/-! slices -/
theorem cutL_A2 {E : RE α} {l : List α} {ds : List D} (h : A2 E l ds) (lo hi : Option Int) : A2 E (cutL l lo hi) (cutL ds lo hi) := by
  unfold cutL
  rw [h.length]
  exact (h.drop _).take _
def Eqv {α : Type} : α → α → Prop := fun a b => b = a
theorem vo_n : EvR ρ oNone (.ok none) Eqv := fun e l => ⟨none, rfl, rfl⟩
theorem vo_s {i : Int} (h : EvR ρ f (.ok i) eI) : EvR ρ (oSome f) (.ok (some i)) Eqv := fun e l => by
  obtain ⟨d, h1, h2⟩ := h e l
  exact ⟨some i, by rw [oSome_app, h1, show d = _ from h2]; rfl, rfl⟩
variable {fl fh : DL.Env → Res (Option Int)} {lo hi : Option Int}
theorem v_cutL {E : RE α} {r : Res (List α)} (h : EvR ρ f r (eL E)) (hl : EvR ρ fl (.ok lo) Eqv) (hh : EvR ρ fh (.ok hi) Eqv) : EvR ρ (eCut f fl fh) (r.bind fun l => .ok (cutL l lo hi)) (eL E) := fun e l => by
  rw [eCut_app]
  refine (h e l).bind fun xs d ⟨ds, h1, h2⟩ => ?_
  obtain ⟨_, a1, rfl⟩ := hl e l
  obtain ⟨_, b1, rfl⟩ := hh e l
  rw [a1, b1, h1]
  exact ⟨_, rfl, _, rfl, cutL_A2 h2 _ _⟩
/-! what is walked -/
theorem v_seqL {E : RE α} {r : Res (List α)} (h : EvR ρ f r (eL E)) : EvR ρ (iSeq f) r (A2 E) := fun e l => by
  have := h e l
  rw [iSeq_app]
  cases r with
  | ok a => obtain ⟨d, e1, ds, rfl, h1⟩ := this; rw [e1]; exact ⟨ds, rfl, h1⟩
  | exc c fs => rw [show f e = _ from this]; rfl
  | bad => trivial
def rangeI (lo hi : Int) : List Int := (List.range (hi - lo).toNat).map fun i => lo + (i : Nat)
open Classical in
noncomputable def rng1 (n : Int) : Res (List Int) := if Rg n then .ok (rangeI 0 n) else .bad
theorem rangeI_A2 (m n : Int) : A2 eI (rangeI m n) (rangeD m n) := A2.fn.mpr (by unfold rangeI rangeD; rw [List.map_map]; rfl)
theorem v_rng1 {r : Res Int} (h : EvR ρ f r eI) : EvR ρ (iRange1 f) (r.bind rng1) (A2 eI) := fun e l => by
  rw [iRange1_app]
  refine (h e l).bind fun n d hd => ?_
  rw [show d = _ from hd]
  unfold rng1
  by_cases k : Rg n
  · rw [if_pos k]; exact ⟨_, range1D_int n k, rangeI_A2 0 n⟩
  · rw [if_neg k]; trivial
theorem v_rng1p {n : Int} (h : EvR ρ f (.ok n) eI) : EvR ρ (iRange1 f) (rng1 n) (A2 eI) := v_rng1 h
/-- range(n) whose number is small enough: no questions asked -/
theorem rng1_ok {n : Int} (h : -1000000000 ≤ n) (k : n ≤ 1000000000) : rng1 n = .ok (rangeI 0 n) := if_pos (Rg.of h k)
end
/-! ### lists that are changed -/
open Classical in
noncomputable def appR {α : Type} (l : List α) (a : α) : Res (List α) := if l.length < sizeLine then .ok (l ++ [a]) else .bad
theorem appR_ok {l : List α} {a : α} (h : l.length ≤ 10000000) : appR l a = .ok (l ++ [a]) := if_pos (by rw [PySem.sizeLine_eq]; omega)
section
variable {ρ : KEnv}
theorem sMut_J {al : List Nat} {i : Nat} {gm : List D → List D → Option (List D)} {fs : DL.Env → Res (List D)} {E : RE α} {l : List α} {Q : β → List D → Prop} {r : Res β} {t : β → Res (List α)}
    (hf : (fzK al ρ)[i]? = some (some (ow (eL E) l))) (hr : EvR ρ fs r Q) (hg : ∀ ds b es l', A2 E l ds → Q b es → t b = .ok l' → ∃ ds', gm ds es = some ds' ∧ A2 E l' ds') (hn : ∀ b c fs, t b ≠ .exc c fs) : J ρ (sMut al i gm fs) (r.bind t) (PN fun l' => (fzK al ρ).set i (some (ow (eL E) l'))) := fun e le => by
  have lf := le.fz al
  obtain ⟨d, o, h1, ⟨ds, h2, h3⟩, h4⟩ := lf.get hf
  subst h2 h4
  have := hr e le
  have main : sMut al i gm fs e = (match fs e with | .ok es => (match gm ds es with | some ys => .nx ((fz al e).set i (some (.lst ys, true))) | none => .bad) | .exc c fs' => .ex c fs' (fz al e) | .bad => .bad) := by
    rw [sMut_app, ownL_app, h1]
    dsimp only
    rw [sE_app]
    cases fs e <;> rfl
  rw [main]
  cases r with
  | ok b =>
    obtain ⟨es, h5, h6⟩ := this
    rw [h5]
    show JM (t b) _ _
    cases q : t b with
    | ok l' =>
      obtain ⟨ds', h7, h8⟩ := hg ds b es l' h3 h6 q
      dsimp only
      rw [h7]
      exact ⟨_, rfl, lf.set i ⟨⟨ds', rfl, h8⟩, rfl⟩⟩
    | exc c fs' => exact absurd q (hn _ _ _)
    | bad => trivial
  | exc c fs' => rw [show fs e = _ from this]; exact ⟨_, rfl⟩
  | bad => trivial
theorem appR_nx (l : List α) (a : α) (c : String) (fs : List D) : appR l a ≠ .exc c fs := by unfold appR; split <;> simp
theorem d_app {al : List Nat} {i : Nat} {f : DL.Env → Res D} {E : RE α} {l : List α} {r : Res α} (hf : (fzK al ρ)[i]? = some (some (ow (eL E) l))) (h : EvR ρ f r E) : J ρ (sMut al i gAppend (aCons f aNil)) (r.bind fun a => appR l a) (PN fun l' => (fzK al ρ).set i (some (ow (eL E) l'))) :=
  sMut_J hf (vq_1 h) (fun ds b es l' h1 h2 h3 => by
    obtain ⟨d, rfl, h4⟩ := h2
    unfold appR at h3
    split at h3
    · rename_i hl
      cases h3
      exact ⟨ds ++ [d], by unfold gAppend; dsimp only; rw [if_pos (by rw [h1.length]; exact hl)], h1.append ⟨d, [], rfl, h4, rfl⟩⟩
    · cases h3) (fun b => appR_nx l b)
/-- l[k] = v -/
def putLR {α : Type} (l : List α) (k : Int) (v : α) : Res (List α) := match ixN l.length k with
  | some j => .ok (l.set j v)
  | none => .bad
theorem d_putL {al : List Nat} {i : Nat} {fk fv : DL.Env → Res D} {E : RE α} {l : List α} {rk : Res Int} {rv : Res α} (hf : (fzK al ρ)[i]? = some (some (ow (eL E) l))) (hk : EvR ρ fk rk eI) (hv : EvR ρ fv rv E) : J ρ (sPutL al i fk fv) (rv.bind fun v => rk.bind fun k => putLR l k v) (PN fun l' => (fzK al ρ).set i (some (ow (eL E) l'))) := fun e le => by
  have lf := le.fz al
  obtain ⟨d, o, h1, ⟨ds, h2, h3⟩, h4⟩ := lf.get hf
  subst h2 h4
  have hk' := hk e le
  have hv' := hv e le
  rw [sPutL_app, ownL_app, h1]
  dsimp only
  rw [sE_app]
  cases rv with
  | ok v =>
    obtain ⟨y, b1, b2⟩ := hv'
    rw [b1]
    cases rk with
    | ok k =>
      obtain ⟨x, a1, rfl⟩ := hk'
      rw [a1]
      show JM (putLR l k v) _ _
      unfold putLR
      cases q : ixN l.length k with
      | none => trivial
      | some j =>
        have q' : ixN ds.length k = some j := by rw [h3.length]; exact q
        exact ⟨_, by simp only [Res.bind_ok]; rw [q'], lf.set i ⟨⟨_, rfl, h3.set b2 j⟩, rfl⟩⟩
    | exc c fs => rw [show fk e = _ from hk']; exact ⟨_, rfl⟩
    | bad => trivial
  | exc c fs => rw [show fv e = _ from hv']; exact ⟨_, rfl⟩
  | bad => trivial
end
/-! ### dicts -/
structure KeyF {α : Type} (t : Bool) (f : α → D) : Prop where
  inj : ∀ a b, f a = f b → a = b
  ok : ∀ a, D.keyOk t (f a) = true
theorem KeyF.int : KeyF false D.int := ⟨fun a b h => by injection h, fun a => rfl⟩
theorem KeyF.str : KeyF false D.str := ⟨fun a b h => by injection h, fun a => rfl⟩
theorem KeyF.row : KeyF true ans := ⟨fun a b h => ans_inj h, ans_key⟩
def eK {α : Type} (f : α → D) : RE α := fun a d => d = f a
def eM {α β : Type} (t : Bool) (f : α → D) (E : RE β) : RE (List (α × β)) := fun m d => ∃ kvs, d = .dct t kvs ∧ A2 (fun (p : α × β) (q : D × D) => q.1 = f p.1 ∧ E p.2 q.2) m kvs
section
variable [DecidableEq α] {t : Bool} {f : α → D} {E : RE β}
theorem find_A2 (K : KeyF t f) (k : α) : ∀ {m : List (α × β)} {kvs : List (D × D)}, A2 (fun (p : α × β) (q : D × D) => q.1 = f p.1 ∧ E p.2 q.2) m kvs → match getG m k with
    | some v => ∃ d, dFind kvs (f k) = some d ∧ E v d
    | none => dFind kvs (f k) = none
  | [], _, h => by rw [show _ = [] from h]; rfl
  | p :: m, _, ⟨q, r, rfl, ⟨h1, h2⟩, h3⟩ => by
    have ih := find_A2 K k h3
    unfold getG dFind at *
    rw [List.find?_cons, List.find?_cons]
    by_cases h : p.1 = k
    · have e : q.1 = f k := by rw [h1, h]
      simp only [h, e, decide_true, Option.map_some]
      exact ⟨_, rfl, h2⟩
    · have e : q.1 ≠ f k := fun z => h (K.inj _ _ (h1.symm.trans z))
      simp only [h, e, decide_false]
      exact ih
theorem set_A2 (K : KeyF t f) {m : List (α × β)} {kvs : List (D × D)} (h : A2 (fun (p : α × β) (q : D × D) => q.1 = f p.1 ∧ E p.2 q.2) m kvs) (k : α) {v : β} {d : D} (hv : E v d) :
    A2 (fun (p : α × β) (q : D × D) => q.1 = f p.1 ∧ E p.2 q.2) (putG m k v) (dSet kvs (f k) d) := by
  have any : ∀ {m : List (α × β)} {kvs : List (D × D)}, A2 (fun (p : α × β) (q : D × D) => q.1 = f p.1 ∧ E p.2 q.2) m kvs → (kvs.any fun p => @decide (p.1 = f k) (Classical.propDecidable _)) = m.any fun p => decide (p.1 = k) := by
    intro m
    induction m with
    | nil => intro kvs h; rw [show kvs = [] from h]; rfl
    | cons p m ih =>
      rintro _ ⟨q, r, rfl, ⟨h1, h2⟩, h3⟩
      rw [List.any_cons, List.any_cons, ih h3]
      congr 1
      rw [h1]
      by_cases h : p.1 = k
      · simp [h]
      · have : f p.1 ≠ f k := fun z => h (K.inj _ _ z)
        simp [h, this]
  have mp : ∀ {m : List (α × β)} {kvs : List (D × D)}, A2 (fun (p : α × β) (q : D × D) => q.1 = f p.1 ∧ E p.2 q.2) m kvs → A2 (fun (p : α × β) (q : D × D) => q.1 = f p.1 ∧ E p.2 q.2) (m.map fun p => if p.1 = k then (p.1, v) else p) (kvs.map fun p => @ite _ (p.1 = f k) (Classical.propDecidable _) (p.1, d) p) := by
    intro m
    induction m with
    | nil => intro kvs h; rw [show kvs = [] from h]; rfl
    | cons p m ih =>
      rintro _ ⟨q, r, rfl, ⟨h1, h2⟩, h3⟩
      refine ⟨_, _, rfl, ?_, ih h3⟩
      by_cases h : p.1 = k
      · have e : q.1 = f k := by rw [h1, h]
        dsimp only; rw [if_pos h, if_pos e]; exact ⟨h1, hv⟩
      · have e : q.1 ≠ f k := fun z => h (K.inj _ _ (h1.symm.trans z))
        dsimp only; rw [if_neg h, if_neg e]; exact ⟨h1, h2⟩
  unfold putG dSet
  rw [any h]
  split
  · exact mp h
  · exact h.append ⟨_, [], rfl, ⟨rfl, hv⟩, rfl⟩
variable {ρ : KEnv}
theorem v_get2 (K : KeyF t f) {fa fb fc : DL.Env → Res D} {m : List (α × β)} {rk : Res α} {rd : Res β} (ha : EvR ρ fa (.ok m) (eM t f E)) (hb : EvR ρ fb rk (eK f)) (hc : EvR ρ fc rd E) : EvR ρ (eGet2 fa fb fc) (rk.bind fun k => rd.bind fun v => .ok ((getG m k).getD v)) E := fun e l => by
  obtain ⟨_, a1, kvs, rfl, h⟩ := ha e l
  rw [eGet2_app, a1]
  refine (hb e l).bind fun k d hk => (hc e l).bind fun v d' hv => ?_
  rw [show d = _ from hk]
  have := find_A2 K k h
  refine ⟨(dFind kvs (f k)).getD d', if_pos (K.ok k), ?_⟩
  cases q : getG m k with
  | none => rw [q] at this; rw [this]; exact hv
  | some w => rw [q] at this; obtain ⟨z, h1, h2⟩ := this; rw [h1]; exact h2
theorem v_get2p (K : KeyF t f) {fa fb fc : DL.Env → Res D} {m : List (α × β)} {k : α} {v : β} (ha : EvR ρ fa (.ok m) (eM t f E)) (hb : EvR ρ fb (.ok k) (eK f)) (hc : EvR ρ fc (.ok v) E) : EvR ρ (eGet2 fa fb fc) (.ok ((getG m k).getD v)) E := v_get2 K ha hb hc
open Classical in
noncomputable def putDR (m : List (α × β)) (k : α) (v : β) : Res (List (α × β)) := if m.length < sizeLine then .ok (putG m k v) else .bad
omit [DecidableEq α] in
theorem v_dnew : EvR ρ (eDNew t) (.ok []) (eM t f E) := fun e l => ⟨_, rfl, [], rfl, rfl⟩
theorem d_putD (K : KeyF t f) {al : List Nat} {i : Nat} {fk fv : DL.Env → Res D} {m : List (α × β)} {rk : Res α} {rv : Res β} (hf : (fzK al ρ)[i]? = some (some (ow (eM t f E) m))) (hk : EvR ρ fk rk (eK f)) (hv : EvR ρ fv rv E) :
    J ρ (sPutD al i fk fv) (rv.bind fun v => rk.bind fun k => putDR m k v) (PN fun m' => (fzK al ρ).set i (some (ow (eM t f E) m'))) := fun e le => by
  have lf := le.fz al
  obtain ⟨d, o, h1, ⟨kvs, h2, h3⟩, h4⟩ := lf.get hf
  subst h2 h4
  have hk' := hk e le
  have hv' := hv e le
  rw [sPutD_app, ownD_app, h1]
  dsimp only
  rw [sE_app]
  cases rv with
  | ok v =>
    obtain ⟨y, b1, b2⟩ := hv'
    rw [b1]
    cases rk with
    | ok k =>
      obtain ⟨x, a1, rfl⟩ := hk'
      rw [a1]
      show JM (putDR m k v) _ _
      unfold putDR
      by_cases q : m.length < sizeLine
      · rw [if_pos q]
        exact ⟨_, by simp only [Res.bind_ok]; rw [if_pos ⟨K.ok k, by rw [h3.length]; exact q⟩], lf.set i ⟨⟨_, rfl, set_A2 K h3 k b2⟩, rfl⟩⟩
      · rw [if_neg q]; trivial
    | exc c fs => rw [show fk e = _ from hk']; exact ⟨_, rfl⟩
    | bad => trivial
  | exc c fs => rw [show fv e = _ from hv']; exact ⟨_, rfl⟩
  | bad => trivial
theorem d_putDP (K : KeyF t f) {al : List Nat} {i : Nat} {fk fv : DL.Env → Res D} {m : List (α × β)} {k : α} {v : β} (hf : (fzK al ρ)[i]? = some (some (ow (eM t f E) m))) (hk : EvR ρ fk (.ok k) (eK f)) (hv : EvR ρ fv (.ok v) E) :
    J ρ (sPutD al i fk fv) (putDR m k v) (PN fun m' => (fzK al ρ).set i (some (ow (eM t f E) m'))) := d_putD K hf hk hv
end
end
end DL

/-! Typed readings: more operations, casts. -/
namespace DL
open PySem PySem.Spec PyProof.Rows L2
open PySem.Builtin.Int (intBits)

theorem Res.assoc {α β γ : Type} (r : Res α) (f : α → Res β) (g : β → Res γ) : (r.bind f).bind g = r.bind fun a => (f a).bind g := by cases r <;> rfl
@[simp] theorem pow_10_30 : dPow (.int 10) (.int 30) = .ok (.int (10 ^ 30)) := dPow_of (by decide +kernel)
@[simp] theorem pow_10_12 : dPow (.int 10) (.int 12) = .ok (.int (10 ^ 12)) := dPow_of (by decide +kernel)
@[simp] theorem pow_10_6 : dPow (.int 10) (.int 6) = .ok (.int (10 ^ 6)) := dPow_of (by decide +kernel)
section
variable {α β γ : Type} {ρ : KEnv}
theorem v_eqr {f : DL.Env → Res β} {r r' : Res α} {E : α → β → Prop} (h : EvR ρ f r E) (e : r = r') : EvR ρ f r' E := e ▸ h
theorem v_opl {fa fb : DL.Env → Res D} {g : D → D → Res D} {Ea : RE α} {Eb : RE β} {Ec : RE γ} {ra : Res α} {b : β} {gt : α → Res γ} (hg : ∀ a x y, Ea a x → Eb b y → Rf (g x y) (gt a) Ec) (ha : EvR ρ fa ra Ea) (hb : EvR ρ fb (.ok b) Eb) :
    EvR ρ (eOp g fa fb) (ra.bind gt) Ec := fun e l => (ha e l).bind fun a x h1 => by
  obtain ⟨y, h2, h3⟩ := hb e l
  rw [h2]
  exact hg a x y h1 h3
theorem v_1i {fa : DL.Env → Res D} {g : D → Res D} {Ea Ec : RE α} {ra : Res α} (hg : ∀ a x, Ea a x → Rf (g x) (.ok a) Ec) (ha : EvR ρ fa ra Ea) : EvR ρ (e1 g fa) ra Ec := fun e l => by
  have := (ha e l).bind hg
  cases ra <;> exact this
theorem b_orM {fa fb : DL.Env → Res Bool} {P : Prop} [Decidable P] {rb : Res Bool} (ha : EvR ρ fa (.ok (decide P)) Tr) (hb : EvR ρ fb rb Tr) : EvR ρ (bOr fa fb) (if P then .ok true else rb) Tr := fun e l => by
  have := b_or ha hb e l
  rw [show (Res.ok (decide P)).bind (fun b => if b = true then .ok true else rb) = (if P then .ok true else rb) by by_cases h : P <;> simp [h]] at this
  exact this
/-! shares written down -/
/-! readings by a function -/
def Fun {α : Type} (E : RE α) (f : α → D) : Prop := ∀ a d, E a d ↔ eD (f a) d
def FunQ {α : Type} (Q : α → List D → Prop) (f : α → List D) : Prop := ∀ a d, Q a d ↔ d = f a
def fLst {α : Type} (f : α → D) : List α → D := fun l => .lst (l.map f)
def fTup {α : Type} (f : α → D) : List α → D := fun l => .tup (l.map f)
def fCons {α β : Type} (f : α → D) (g : β → List D) : α × β → List D := fun p => f p.1 :: g p.2
theorem Fun.int : Fun eI D.int := fun a d => Iff.rfl
theorem Fun.bl : Fun eB D.bl := fun a d => Iff.rfl
theorem Fun.str : Fun eS D.str := fun a d => Iff.rfl
theorem Fun.row : Fun eR ans := fun a d => Iff.rfl
theorem Fun.non : Fun eN (fun _ => D.non) := fun a d => Iff.rfl
theorem a2_fun {E : RE α} {f : α → D} (h : Fun E f) (l : List α) (ds : List D) : A2 E l ds ↔ ds = l.map f := by
  rw [← A2.fn]
  exact ⟨A2.imp fun a d => (h a d).mp, A2.imp fun a d => (h a d).mpr⟩
theorem Fun.lst {E : RE α} {f : α → D} (h : Fun E f) : Fun (eL E) (fLst f) := fun a d =>
  ⟨fun ⟨ds, e, r⟩ => by rw [e, (a2_fun h a ds).mp r]; rfl, fun e => ⟨_, e, (a2_fun h a _).mpr rfl⟩⟩
theorem Fun.tup {E : RE α} {f : α → D} (h : Fun E f) : Fun (eT E) (fTup f) := fun a d =>
  ⟨fun ⟨ds, e, r⟩ => by rw [e, (a2_fun h a ds).mp r]; rfl, fun e => ⟨_, e, (a2_fun h a _).mpr rfl⟩⟩
theorem FunQ.c {E : RE α} {f : α → D} {Q : β → List D → Prop} {g : β → List D} (h : Fun E f) (k : FunQ Q g) : FunQ (qC E Q) (fCons f g) := fun a d =>
  ⟨fun ⟨x, y, e, r, s⟩ => by rw [e, show x = _ from (h _ x).mp r, (k _ y).mp s]; rfl, fun e => ⟨_, _, e, (h _ _).mpr rfl, (k _ _).mpr rfl⟩⟩
/-! something or nothing -/
def optR {α : Type} : Option α → Res α
  | some a => .ok a
  | none => .bad
@[simp] theorem optR_some (a : α) : optR (some a) = .ok a := rfl
/-! texts -/
/-! keys -/
theorem v_keyR {f : DL.Env → Res D} {r : Res (List Int)} (h : EvR ρ f r eR) : EvR ρ f r (eK ans) := v_imp h fun _ _ h => h
/-! tuples of raw data taken apart -/
/-! kinds of things -/
section
variable {E : RE α} {Q : α → List D → Prop}
theorem isInt_Int (a : Int) : ∀ x, eI a x → Rf (isInt x) (.ok true) eB := by rintro _ rfl; exact ⟨_, rfl, rfl⟩
theorem isBool_Int (a : Int) : ∀ x, eI a x → Rf (isBool x) (.ok false) eB := by rintro _ rfl; exact ⟨_, rfl, rfl⟩
end
/-! dicts: displays, copies, equality -/
theorem a2_mem {E : α → β → Prop} : ∀ {l : List α} {r : List β}, A2 E l r → ∀ d ∈ r, ∃ a ∈ l, E a d
  | [], _, h, d, hd => by rw [show _ = [] from h] at hd; cases hd
  | a :: l, _, ⟨d', r, rfl, h1, h2⟩, d, hd => by
    rcases List.mem_cons.mp hd with rfl | hd
    · exact ⟨a, List.mem_cons_self, h1⟩
    · obtain ⟨b, hb, h3⟩ := a2_mem h2 d hd
      exact ⟨b, List.mem_cons_of_mem _ hb, h3⟩
/-! slices with a step -/
end
end DL

/-! What typed reckonings come to: they end well, and with what. -/
namespace DL
open PySem PySem.Spec PyProof.Rows L2
open PySem.Builtin.Int (intBits)
/-- it ends well, with what P says -/
def Ok {α : Type} (r : Res α) (P : α → Prop) : Prop := ∃ a, r = .ok a ∧ P a
section
variable {α β S R : Type}
theorem Ok.ok {a : α} {P : α → Prop} (h : P a) : Ok (.ok a) P := ⟨a, rfl, h⟩
theorem Ok.of {r : Res α} {a : α} {P : α → Prop} (e : r = .ok a) (h : P a) : Ok r P := ⟨a, e, h⟩
theorem Ok.bind {r : Res α} {f : α → Res β} {P : α → Prop} {Q : β → Prop} (h : Ok r P) (k : ∀ a, P a → Ok (f a) Q) : Ok (r.bind f) Q := by
  obtain ⟨a, rfl, h⟩ := h
  exact k a h
theorem Ok.imp {r : Res α} {P Q : α → Prop} (h : Ok r P) (k : ∀ a, P a → Q a) : Ok r Q := by
  obtain ⟨a, e, h⟩ := h
  exact ⟨a, e, k a h⟩
theorem Ok.ite {c : Prop} [Decidable c] {a b : Res α} {P : α → Prop} (h : c → Ok a P) (k : ¬ c → Ok b P) : Ok (if c then a else b) P := by
  by_cases q : c
  · rw [if_pos q]; exact h q
  · rw [if_neg q]; exact k q
theorem Ok.eq {r : Res α} {a : α} (h : Ok r fun x => x = a) : r = .ok a := by obtain ⟨b, e, rfl⟩ := h; exact e
theorem Ok.get {r : Res α} {P : α → Prop} (h : Ok r P) : ∃ a, r = .ok a ∧ P a := h
/-! numbers -/
theorem Sm.lit {i : Int} (n : Nat) (h : i.natAbs < 2 ^ n) : Sm n i := h
theorem sm64 {i : Int} (h : -1000000000000000000 ≤ i) (k : i ≤ 1000000000000000000) : Sm 64 i := by
  have e : (2 : Nat) ^ 64 = 18446744073709551616 := by decide
  show i.natAbs < 2 ^ 64
  omega
theorem mulR_s {i j : Int} (h : -1000000000000000000 ≤ i) (k : i ≤ 1000000000000000000) (h' : -1000000000000000000 ≤ j) (k' : j ≤ 1000000000000000000) : mulR i j = .ok (i * j) := mulR_ok (sm64 h k) (sm64 h' k') (by decide)
theorem mulR_l {n : Nat} {i j : Int} (h : Sm n i) (hn : n ≤ 100000000) (h' : -1000000000000000000 ≤ j) (k' : j ≤ 1000000000000000000) : mulR i j = .ok (i * j) := mulR_ok h (sm64 h' k') (by unfold big; omega)
theorem Sm.sum : ∀ {l : List Int} {n : Nat}, (∀ z ∈ l, Sm n z) → l.length ≤ 64 → Sm (n + 6) l.sum := by
  have gen : ∀ (l : List Int) (n : Nat), (∀ z ∈ l, Sm n z) → l.sum.natAbs ≤ l.length * 2 ^ n := by
    intro l n
    induction l with
    | nil => intro _; exact Nat.zero_le _
    | cons z l ih =>
      intro h
      have a := ih fun y hy => h y (List.mem_cons_of_mem _ hy)
      have b : z.natAbs < 2 ^ n := h z List.mem_cons_self
      rw [List.sum_cons, List.length_cons, Nat.succ_mul]
      omega
  intro l n h hl
  by_cases hz : l = []
  · subst hz; show (0 : Int).natAbs < _; exact Nat.two_pow_pos _
  have a := gen l n h
  by_cases h63 : l.length ≤ 63
  · show l.sum.natAbs < 2 ^ (n + 6)
    rw [Nat.pow_add]
    have : l.length * 2 ^ n ≤ 63 * 2 ^ n := Nat.mul_le_mul_right _ h63
    have := Nat.two_pow_pos n
    omega
  · show l.sum.natAbs < 2 ^ (n + 6)
    have strict : ∀ (l : List Int), l ≠ [] → (∀ z ∈ l, Sm n z) → l.sum.natAbs < l.length * 2 ^ n := by
      intro l
      induction l with
      | nil => intro h; exact absurd rfl h
      | cons z l ih =>
        intro _ h
        have b : z.natAbs < 2 ^ n := h z List.mem_cons_self
        have a := gen l n fun y hy => h y (List.mem_cons_of_mem _ hy)
        rw [List.sum_cons, List.length_cons, Nat.succ_mul]
        omega
    have := strict l hz h
    rw [Nat.pow_add]
    have : l.length * 2 ^ n ≤ 64 * 2 ^ n := Nat.mul_le_mul_right _ hl
    omega
theorem sm_bits {z : Int} {n : Nat} (h : intBits z ≤ n) : Sm n z := Sm.bits.mpr h
/-! lists -/
theorem fits_of {n : Nat} (h : n ≤ 10000000) : Fits n := by unfold Fits; rw [PySem.sizeLine_eq]; omega
theorem Ok.getL {l : List α} {i : Int} {P : α → Prop} (h : -(l.length : Int) ≤ i) (k : i < l.length) (q : ∀ a ∈ l, P a) : Ok (getL l i) P := by
  obtain ⟨a, m, e⟩ := getL_mem h k
  exact ⟨a, e, q a m⟩
theorem rangeI_len (m n : Int) : (rangeI m n).length = (n - m).toNat := by unfold rangeI; simp
theorem rangeI_mem {m n i : Int} : i ∈ rangeI m n ↔ m ≤ i ∧ i < n := by
  unfold rangeI
  simp only [List.mem_map, List.mem_range]
  constructor
  · rintro ⟨k, h1, h2⟩; omega
  · intro h; exact ⟨(i - m).toNat, by omega, by omega⟩
/-- each item by itself -/
theorem Ok.mapR {f : α → Res β} {P : α → β → Prop} : ∀ {l : List α}, (∀ a ∈ l, Ok (f a) (P a)) → Ok (mapR l f) fun bs => A2 P l bs
  | [], _ => ⟨[], rfl, rfl⟩
  | a :: l, h => by
    obtain ⟨b, e, hb⟩ := h a List.mem_cons_self
    obtain ⟨bs, e', hbs⟩ := Ok.mapR (l := l) fun x hx => h x (List.mem_cons_of_mem _ hx)
    exact ⟨b :: bs, by unfold DL.mapR; rw [e, e']; rfl, b, bs, rfl, hb, hbs⟩
theorem Ok.compR {f : α → Res β} {P : α → β → Prop} {Q : List β → Prop} {l : List α} (hl : l.length ≤ 10000000) (h : ∀ a ∈ l, Ok (f a) (P a)) (q : ∀ bs, A2 P l bs → Q bs) : Ok (compR l f) Q := by
  obtain ⟨bs, e, hb⟩ := Ok.mapR h
  refine ⟨bs, ?_, q bs hb⟩
  unfold DL.compR
  rw [if_pos (fits_of hl), e]
  rfl
theorem mapR_fn {f : α → Res β} {g : α → β} : ∀ {l : List α}, (∀ a ∈ l, f a = .ok (g a)) → DL.mapR l f = .ok (l.map g)
  | [], _ => rfl
  | a :: l, h => by unfold DL.mapR; rw [h a List.mem_cons_self, mapR_fn fun x hx => h x (List.mem_cons_of_mem _ hx)]; rfl
theorem compR_fn {f : α → Res β} {g : α → β} {l : List α} (hl : l.length ≤ 10000000) (h : ∀ a ∈ l, f a = .ok (g a)) : DL.compR l f = .ok (l.map g) := by
  unfold DL.compR
  rw [if_pos (fits_of hl), mapR_fn h]
  rfl
theorem filR_fn {c : α → Res Bool} {f : α → Res β} {d : α → Bool} {g : α → β} : ∀ {l : List α}, (∀ a ∈ l, c a = .ok (d a)) → (∀ a ∈ l, d a = true → f a = .ok (g a)) → DL.filR l c f = .ok ((l.filter d).map g)
  | [], _, _ => rfl
  | a :: l, h, k => by
    have ih := filR_fn (l := l) (fun x hx => h x (List.mem_cons_of_mem _ hx)) (fun x hx => k x (List.mem_cons_of_mem _ hx))
    unfold DL.filR
    rw [h a List.mem_cons_self, Res.bind_ok, ih]
    by_cases q : d a = true
    · rw [if_pos q, k a List.mem_cons_self q, List.filter_cons, if_pos q]; rfl
    · rw [if_neg q, List.filter_cons, if_neg q]
theorem compF_fn {c : α → Res Bool} {f : α → Res β} {d : α → Bool} {g : α → β} {l : List α} (hl : l.length ≤ 10000000) (h : ∀ a ∈ l, c a = .ok (d a)) (k : ∀ a ∈ l, d a = true → f a = .ok (g a)) : DL.compF l c f = .ok ((l.filter d).map g) := by
  unfold DL.compF
  rw [if_pos (fits_of hl), filR_fn h k]
  rfl
/-- a loop with an invariant over the items done -/
theorem Ok.forR {f : α → S → Res S} {l : List α} {s : S} (I : List α → S → Prop) (h0 : I [] s) (h : ∀ d a r s, l = d ++ a :: r → I d s → Ok (f a s) (I (d ++ [a]))) : Ok (forR l s f) (I l) := by
  have gen : ∀ (r d : List α) (s : S), l = d ++ r → I d s → Ok (DL.forR r s f) (I l) := by
    intro r
    induction r with
    | nil => intro d s e hI; rw [e, List.append_nil]; exact ⟨s, rfl, hI⟩
    | cons a r ih =>
      intro d s e hI
      unfold DL.forR
      exact (h d a r s e hI).bind fun s' hs' => ih (d ++ [a]) s' (by rw [e, List.append_assoc]; rfl) hs'
  exact gen l [] s rfl h0
/-- a loop that appends one thing a turn -/
theorem Ok.forA {f : α → List β → Res (List β)} {P : α → β → Prop} {l : List α} {s : List β} (hl : s.length + l.length ≤ 10000000) (h : ∀ a ∈ l, ∀ s' : List β, s'.length ≤ 10000000 → Ok (f a s') fun s'' => ∃ b, P a b ∧ s'' = s' ++ [b]) : Ok (DL.forR l s f) fun s' => ∃ bs, A2 P l bs ∧ s' = s ++ bs := by
  refine Ok.imp (Ok.forR (fun d s' => ∃ bs, A2 P d bs ∧ s' = s ++ bs) ⟨[], rfl, by simp⟩ ?_) fun _ h => h
  rintro d a r s' e ⟨bs, h1, rfl⟩
  have len : (s ++ bs).length ≤ 10000000 := by rw [List.length_append, h1.length]; have := congrArg List.length e; simp at this; omega
  refine (h a (by rw [e]; simp) _ len).imp ?_
  rintro _ ⟨b, hb, rfl⟩
  exact ⟨bs ++ [b], h1.append ⟨b, [], rfl, hb, rfl⟩, by rw [List.append_assoc]⟩
theorem forX_unit {f : α → Unit → Res (Oc Unit R)} {l : List α} (h : ∀ a ∈ l, f a () = .ok (.nx ())) : forX l () f = .ok (.nx ()) := by
  induction l with
  | nil => rfl
  | cons a l ih => unfold DL.forX; rw [h a List.mem_cons_self]; exact ih fun x hx => h x (List.mem_cons_of_mem _ hx)
@[simp] theorem thenX_nx {T : Type} (s : S) (m : R → T) (k : S → Res T) : thenX (.ok (.nx s)) m k = k s := Eq.trans rfl rfl
@[simp] theorem thenX_rt {T : Type} (v : R) (m : R → T) (k : S → Res T) : thenX (.ok (.rt v) : Res (Oc S R)) m k = .ok (m v) := Eq.trans rfl rfl
theorem sortKR_ok {l : List (List Int)} (h : l.length ≤ 10000000) : sortKR l = .ok (sortK l) := if_pos (fits_of h)
/-! while -/
end
end DL
namespace DL
end DL
namespace DL
end DL

/-! Typed readings: sets of lists, max with a default. -/
namespace DL
open PySem PySem.Spec PyProof.Rows L2
section
variable {α : Type}
open Classical in
noncomputable def nubL : List α → List α
  | [] => []
  | a :: l => if a ∈ nubL l then nubL l else a :: nubL l
theorem nubL_mem {a : α} : ∀ {l : List α}, a ∈ nubL l ↔ a ∈ l
  | [] => Iff.rfl
  | x :: r => by
    unfold nubL
    have ih := nubL_mem (a := a) (l := r)
    split
    · rename_i h
      rw [ih, List.mem_cons]
      exact ⟨.inr, fun z => z.elim (fun z => by rw [z]; exact nubL_mem.mp h) fun z => z⟩
    · rw [List.mem_cons, List.mem_cons, ih]
theorem nubL_nodup : ∀ l : List α, (nubL l).Nodup
  | [] => List.nodup_nil
  | x :: r => by
    unfold nubL
    split
    · exact nubL_nodup r
    · rename_i h; exact List.nodup_cons.mpr ⟨h, nubL_nodup r⟩
/-! slices whose bounds may fail -/
end
end DL

/-! readings: a tuple times a number; more ways -/
namespace DL
open PySem PySem.Spec PyProof.Rows L2
section
variable {α : Type}
end
end DL

/-! readings: a list handed on and given back -/
namespace DL
open PySem PySem.Spec PyProof.Rows L2
section
variable {α β R S T : Type} {ρ : KEnv} {c : DL.Env → Out}
end
end DL
namespace DL
open PySem PySem.Spec PyProof.Rows L2
section
end
end DL

/-! readings: values of dicts -/
namespace DL
open PySem PySem.Spec PyProof.Rows L2
section
end
end DL

/-! readings: lists of ranges, sorted texts, a tuple's index -/
namespace DL
open PySem PySem.Spec PyProof.Rows L2
section
variable {α β : Type} {ρ : KEnv} {f g : DL.Env → Res D}
end
end DL

/-! readings: dicts that are walked -/
namespace DL
open PySem PySem.Spec PyProof.Rows L2
section
variable {α β : Type} {ρ : KEnv} {g : DL.Env → Res D} {b : Bool} {f : α → D} {Ek : RE α} {E : RE β} {r : Res (List (α × β))}
theorem a2_vals : ∀ {m : List (α × β)} {kvs : List (D × D)}, A2 (fun (p : α × β) (q : D × D) => q.1 = f p.1 ∧ E p.2 q.2) m kvs → A2 E (m.map (·.2)) (kvs.map (·.2))
  | [], _, h => by rw [show _ = [] from h]; rfl
  | p :: m, _, ⟨q, r, rfl, ⟨h1, h2⟩, h3⟩ => ⟨_, _, rfl, h2, a2_vals h3⟩
theorem v_valsM (h : EvR ρ g r (eM b f E)) : EvR ρ (iValsD g) (r.bind fun m => .ok (m.map (·.2))) (A2 E) := fun e l => by
  have := h e l
  unfold iValsD
  cases r with
  | ok m => obtain ⟨d, e1, kvs, rfl, h1⟩ := this; rw [e1]; exact ⟨_, rfl, a2_vals h1⟩
  | exc c fs => rw [show g e = _ from this]; rfl
  | bad => trivial
theorem v_valsMp {m : List (α × β)} (h : EvR ρ g (.ok m) (eM b f E)) : EvR ρ (iValsD g) (.ok (m.map (·.2))) (A2 E) := v_valsM h
end
end DL

/-! shares that may be a module's constants -/
namespace DL
open PySem PySem.Spec PyProof.Rows L2
end DL

/-! a module's constant dict with text keys and whole numbers: x in T, T[x] -/
namespace DL
open PySem PySem.Spec PyProof.Rows L2
structure DctOk (K : PySem.W.Frag) (w : World) (mg : Str → Option Value) (x : String) (tab : List (Str × Int)) : Prop where
  ok : ∃ (d : Addr) (es : Array DictEntry) (n : Nat), mg (Str.ofString x) = some (.ref d) ∧ KDict K w d es n ∧ ∀ z, match getG tab z with
    | some i => ∃ t, PySem.W.nsIn K d z = some (some (.int i t))
    | none => PySem.W.nsIn K d z = some none
section
variable {X : Cx} {W : WX} {A : Nat → Prop} {a : Expr} {pos p : Pos} {x : String} {tab : List (Str × Int)} {f : DL.Env → Res D}
end
end DL

/-! readings: texts in order, and more -/
namespace DL
open PySem PySem.Spec PyProof.Rows L2
section
end
end DL
namespace DL
/-- a loop that may give back before its end -/
theorem Ok.forX {α S R : Type} {f : α → S → Res (Oc S R)} {l : List α} {s : S} (I : List α → S → Prop) (Q : R → Prop) (h0 : I [] s) (h : ∀ d a r s, l = d ++ a :: r → I d s → Ok (f a s) fun o => match o with | .nx s' => I (d ++ [a]) s' | .rt v => Q v | .bk _ => False) :
    Ok (forX l s f) fun o => match o with | .nx s' => I l s' | .rt v => Q v | .bk _ => False := by
  have gen : ∀ (r d : List α) (s : S), l = d ++ r → I d s → Ok (DL.forX r s f) fun o => match o with | .nx s' => I l s' | .rt v => Q v | .bk _ => False := by
    intro r
    induction r with
    | nil => intro d s e hI; rw [e, List.append_nil]; exact ⟨_, rfl, hI⟩
    | cons a r ih =>
      intro d s e hI
      unfold DL.forX
      obtain ⟨o, eo, ho⟩ := h d a r s e hI
      rw [eo, Res.bind_ok]
      cases o with
      | nx s' => exact ih (d ++ [a]) s' (by rw [e, List.append_assoc]; rfl) ho
      | rt v => exact ⟨_, rfl, ho⟩
      | bk s' => exact ho.elim
  exact gen l [] s rfl h0
end DL

/-! readings: insert, try, what is a list or a tuple -/
namespace DL
open PySem PySem.Spec PyProof.Rows L2
section
variable {α β T S R : Type} {ρ ρ' ρx : KEnv} {a b c : DL.Env → Out}
/-! ### try -/
/-- a handler that names the error: the same whatever its address -/
def UH {T : Type} (i : Nat) (ρ : KEnv) (fs : Addr → DL.Env → Out) (r : Res T) (P : T → KEnv) : Prop := ∀ e, Le ρ e → match r with
  | .ok t => ∃ e', (∀ a, clrN i (fs a (e.set i (some (.obj (.ref a), false)))) = .nx e') ∧ Le (P t) e'
  | _ => True
/-! ### a list or a tuple -/
/-! ### less known of what was handed on -/
def Lw : KEnv → KEnv → Prop := A2 fun r x => ∀ P, r = some P → ∃ P', x = some P' ∧ ∀ d o, P' d o → P d o
theorem Lw.nil : Lw [] [] := rfl
theorem Lw.same {r : Option Kn} {a b : KEnv} (s : Lw a b) : Lw (r :: a) (r :: b) := ⟨_, _, rfl, fun P h => ⟨P, h, fun _ _ h => h⟩, s⟩
end
section
variable {α β : Type}
/-! ### equality where texts stand in tuples -/
structure EqG {α : Type} [DecidableEq α] (E : RE α) (ok : α → Bool) (n : Nat) : Prop where
  pl : ∀ a d, ok a = true → E a d → d.pl n = true
  beq : ∀ a b x y, E a x → E b y → PyData.eqv x.py y.py = decide (a = b)
structure EqGQ {α : Type} [DecidableEq α] (Q : α → List D → Prop) (ok : α → Bool) (n : Nat) : Prop where
  pl : ∀ a d, ok a = true → Q a d → D.pls d n = true
  beq : ∀ a b x y, Q a x → Q b y → PyData.eqvAll (D.pys x) (D.pys y) = decide (a = b)
theorem EqG.of [DecidableEq α] {E : RE α} {n : Nat} (h : EqE E n) : EqG E (fun _ => true) n := ⟨fun a d _ r => h.pl a d r, h.beq⟩
theorem EqG.str (n : Nat) : EqG eS PyData.strOk n := ⟨by rintro a _ h rfl; exact h, by
  rintro a b _ _ rfl rfl
  simp [D.py, PyData.eqv]
  exact Bool.eq_iff_iff.mpr (by simp)⟩
theorem EqGQ.c [DecidableEq α] [DecidableEq β] {E : RE α} {Q : β → List D → Prop} {n : Nat} {ok : α → Bool} {ok' : β → Bool} (h : EqG E ok n) (k : EqGQ Q ok' n) : EqGQ (qC E Q) (fun p => ok p.1 && ok' p.2) n := ⟨by
  rintro ⟨a, b⟩ _ o ⟨d, r, rfl, hd, hr⟩
  simp only [Bool.and_eq_true] at o
  simp [D.pls, h.pl a d o.1 hd, k.pl b r o.2 hr], by
  rintro ⟨a, b⟩ ⟨a', b'⟩ _ _ ⟨d, r, rfl, hd, hr⟩ ⟨d', r', rfl, hd', hr'⟩
  simp only [D.pys, PyData.eqvAll, h.beq _ _ d d' hd hd', k.beq _ _ r r' hr hr']
  by_cases h1 : a = a' <;> by_cases h2 : b = b' <;> simp [h1, h2]⟩
/-! ### dicts with row keys compared -/
end
end DL

/-! readings: defs that are lent lists and dicts -/
namespace DL
open PySem PySem.Spec PyProof.Rows L2
section
variable {α β R S T C C' : Type} {ρ ρ' : KEnv} {c : DL.Env → Out}
/-- the names at its start -/
def LeAM (bs : List Nat) (k : Nat) (ds : List D) (ρ : KEnv) : Prop := Le ρ (envMa bs k ds)
theorem LeAM.nil {bs : List Nat} {k : Nat} : LeAM bs k [] [] := rfl
theorem LeAM.sh {bs : List Nat} {k : Nat} {E : RE α} {x : α} {d : D} {ds : List D} (h : E x d) (hb : bs.elem k = false) (t : LeAM bs (k + 1) ds ρ) : LeAM bs k (d :: ds) (some (sh E x) :: ρ) := ⟨some (d, bs.elem k), _, rfl, fun P hP => ⟨d, _, rfl, by cases hP; exact ⟨h, hb⟩⟩, t⟩
theorem LeAM.ow {bs : List Nat} {k : Nat} {E : RE α} {x : α} {d : D} {ds : List D} (h : E x d) (hb : bs.elem k = true) (t : LeAM bs (k + 1) ds ρ) : LeAM bs k (d :: ds) (some (DL.ow E x) :: ρ) := ⟨some (d, bs.elem k), _, rfl, fun P hP => ⟨d, _, rfl, by cases hP; exact ⟨h, hb⟩⟩, t⟩
/-! ### calls -/
inductive KM where
  | v
  | o (i : Nat)
  | n
variable {al : List Nat}
end
end DL
namespace DL
open PySem PySem.Spec PyProof.Rows L2
end DL

/-! readings: loops of a def that is lent lists and dicts, with returns in them -/
namespace DL
open PySem PySem.Spec PyProof.Rows L2
section
variable {α β R S T C : Type} {ρ ρ' : KEnv} {a b c : DL.Env → Out} {P : T → Out → Prop}
end
end DL
namespace DL
open PySem PySem.Spec PyProof.Rows L2
end DL
namespace DL
open PySem PySem.Spec PyProof.Rows L2
end DL

/-! readings: what a lent def tells is given on, taken apart, or stands in a pair -/
namespace DL
open PySem PySem.Spec PyProof.Rows L2
section
variable {α β γ R S T C C' : Type} {ρ ρ' : KEnv} {c : DL.Env → Out} {al : List Nat}
end
end DL
namespace DL
open PySem PySem.Spec PyProof.Rows L2
/-! ### places in texts -/
end DL
namespace DL
end DL
namespace DL
section
variable {α : Type} {ρ : KEnv} {E : RE α} {f : α → D} {g : DL.Env → Res D}
end
end DL
namespace DL
end DL

/-! readings: x.update(e); statements never reached -/
namespace DL
open PySem PySem.Spec PyProof.Rows L2
section
variable {α β T : Type} {ρ : KEnv} {c : DL.Env → Out}
variable [DecidableEq α] {f : α → D} {E : RE β}
end
section
variable {ρ : KEnv} {f : DL.Env → Res D}
end
section
variable {α : Type} {E : RE α} {x : α} {a b : KEnv}
end
section
variable {ρ : KEnv} {f : DL.Env → Res D}
end
end DL

/-! readings: tuples known to have no dict of their own -/
namespace DL
open PySem PySem.Spec PyProof.Rows L2
section
variable {α β γ T : Type} {ρ : KEnv} {f : DL.Env → Res D} {fl fh : DL.Env → Res (Option Int)} {fs : DL.Env → Res (List D)}
def ePT {α : Type} (E : RE α) : RE (List α) := fun l d => ∃ ds, d = .con ds ∧ A2 E l ds
def fPT {α : Type} (f : α → D) : List α → D := fun l => .con (l.map f)
theorem Fun.pt {E : RE α} {f : α → D} (h : Fun E f) : Fun (ePT E) (fPT f) := fun a d =>
  ⟨fun ⟨ds, e, r⟩ => by rw [e, (a2_fun h a ds).mp r]; rfl, fun e => ⟨_, e, (a2_fun h a _).mpr rfl⟩⟩
theorem EqE.pt [DecidableEq α] {E : RE α} {n : Nat} (h : EqE E n) : EqE (ePT E) (n + 1) := ⟨by
  rintro a _ ⟨ds, rfl, r⟩; exact a2_pls h r, by
  rintro a b _ _ ⟨ds, rfl, r⟩ ⟨es, rfl, s⟩
  rw [D.py, D.py, PyData.eqv]; exact a2_eqvs h r s⟩
/-! a list, a tuple or a plain tuple -/
def eX {α : Type} (E : RE α) : RE (List α) := fun l d => ∃ ds, (d = .lst ds ∨ d = .tup ds ∨ d = .con ds) ∧ A2 E l ds
theorem o_tupPL {E : RE α} (l : List α) : ∀ x, eL E l x → Rf (dTupleP x) (.ok l) (ePT E) := by rintro _ ⟨ds, rfl, r⟩; exact ⟨_, rfl, ds, rfl, r⟩
theorem o_catPT {E : RE α} (a b : List α) : ∀ x y, ePT E a x → ePT E b y → Rf (dCatP x y) (catR a b) (ePT E) := by rintro _ _ ⟨ds, rfl, r⟩ ⟨es, rfl, s⟩; exact rf_cat (C := D.con) r s (fun h => if_pos h) fun l ds h => ⟨ds, rfl, h⟩
theorem v_seqPT {E : RE α} {r : Res (List α)} (h : EvR ρ f r (ePT E)) : EvR ρ (iSeq f) r (A2 E) := fun e l => by
  have := h e l
  rw [iSeq_app]
  cases r with
  | ok a => obtain ⟨d, e1, ds, rfl, h1⟩ := this; rw [e1]; exact ⟨ds, rfl, h1⟩
  | exc c fs => rw [show f e = _ from this]; rfl
  | bad => trivial
/-! remove of rows -/
/-! methods -/
theorem ty_PT {E : RE α} (a : List α) (d : D) (h : ePT E a d) : D.isCon d = true := by obtain ⟨ds, rfl, _⟩ := h; rfl
theorem v_methP2 {g : D → List D → Res D} {fo fs : DL.Env → Res D} {Eo : RE α} {Ea : RE β} {Ec : RE γ} {ro : Res α} {ra : Res β} {gt : α → β → Res γ} (ty : ∀ a d, Eo a d → D.isCon d = true) (hg : ∀ a b x y, Eo a x → Ea b y → Rf (g x [y]) (gt a b) Ec) (ho : EvR ρ fo ro Eo) (ha : EvR ρ fs ra Ea) :
    EvR ρ (eMethP g fo (aCons fs aNil)) (ro.bind fun a => ra.bind fun b => gt a b) Ec := fun e l => by
  unfold eMethP
  refine (ho e l).bind fun a x hx => ?_
  rw [if_pos (ty a x hx), aCons_app, aNil_app]
  have := (ha e l).bind (fun b y hy => hg a b x y hx hy)
  cases q : fs e with
  | ok y => rw [q] at this; exact this
  | exc c f => rw [q] at this; exact this
  | bad => rw [q] at this; exact this
theorem rows_k {l : List (List Int)} {k : List Int} : (ans k).pl 50 = true ∧ D.pls (rowsD l) 50 = true := ⟨ans_pl k 49, rows_pl l 49⟩
theorem rows_count (l : List (List Int)) (k : List Int) : (rowsD l).countP (fun z => D.beq z (ans k)) = l.count k := by
  unfold rowsD List.count
  rw [List.countP_map]
  congr 1
  funext z
  show D.beq (ans z) (ans k) = _
  rw [beq_ans]
  by_cases h : z = k <;> simp [h]
theorem o_cntPT (l : List (List Int)) (k : List Int) : ∀ x y, ePT eR l x → eR k y → Rf (dCountP x [y]) (.ok ((l.count k : Nat) : Int)) eI := by
  rintro _ _ ⟨ds, rfl, r⟩ rfl
  rw [A2.fn.mp r]
  show Rf (dCountP (.con (rowsD l)) [ans k]) _ _
  dsimp only [dCountP]
  rw [if_pos rows_k, rows_count]
  exact ⟨_, rfl, rfl⟩
/-! dict(t) -/
end
end DL

/-! readings: defs that give back a new list -/
namespace DL
open PySem PySem.Spec PyProof.Rows L2
section
variable {α β R S T : Type} {ρ : KEnv} {c : DL.Env → Out}
end
end DL

/-! readings: texts of numbers, put together and taken apart -/
namespace DL
open PySem PySem.Spec PyProof.Rows L2
section
variable {α β R S T : Type} {ρ : KEnv} {f g : DL.Env → Res D}
/-! f-strings -/
/-! the sum of a dict's values -/
end
end DL

/-! readings: several except clauses -/
namespace DL
open PySem PySem.Spec PyProof.Rows L2
section
variable {α β R S T : Type} {ρ ρx : KEnv} {a : DL.Env → Out}
inductive HUL {S : Type} (ρx : KEnv) (ρs : S → KEnv) : List Hdl → List ((String → Option Bool) × (String → Res S)) → Prop
  | nil : HUL ρx ρs [] []
  | cons {i : Nat} {h : String → Option Bool} {fs : Addr → String → DL.Env → Out} {k : String → Res S} {l : List Hdl} {kl : List ((String → Option Bool) × (String → Res S))} (u : ∀ c, UH i ρx (fun ad => fs ad c) (k c) ρs) (r : HUL ρx ρs l kl) : HUL ρx ρs ((i, h, fs) :: l) ((h, k) :: kl)
/-! l.index(row) of a list of rows -/
end
end DL

/-! readings: a loop over a list of one's own that is kept one's own -/
namespace DL
open PySem PySem.Spec PyProof.Rows L2
/-- the data are told by the reading alone -/
class FnE {α : Type} (E : RE α) : Prop where
  eq : ∀ x d d', E x d → E x d' → d = d'
theorem a2_fn {α : Type} {E : RE α} (h : ∀ x d d', E x d → E x d' → d = d') : ∀ {l : List α} {r r' : List D}, A2 E l r → A2 E l r' → r = r'
  | [], _, _, a, b => by rw [show _ = [] from a, show _ = [] from b]
  | x :: l, _, _, ⟨d, r, e, h1, t⟩, ⟨d', r', e', h1', t'⟩ => by rw [e, e', h x d d' h1 h1', a2_fn h t t']
instance : FnE eI := ⟨fun _ _ _ h k => by rw [show _ = _ from h, show _ = _ from k]⟩
instance : FnE eB := ⟨fun _ _ _ h k => by rw [show _ = _ from h, show _ = _ from k]⟩
instance : FnE eS := ⟨fun _ _ _ h k => by rw [show _ = _ from h, show _ = _ from k]⟩
instance : FnE eR := ⟨fun _ _ _ h k => by rw [show _ = _ from h, show _ = _ from k]⟩
instance : FnE eD := ⟨fun _ _ _ h k => by rw [show _ = _ from h, show _ = _ from k]⟩
instance {α : Type} {E : RE α} [FnE E] : FnE (eL E) := ⟨fun _ _ _ ⟨_, e, h⟩ ⟨_, e', h'⟩ => by rw [e, e', a2_fn FnE.eq h h']⟩
instance {α : Type} {E : RE α} [FnE E] : FnE (eT E) := ⟨fun _ _ _ ⟨_, e, h⟩ ⟨_, e', h'⟩ => by rw [e, e', a2_fn FnE.eq h h']⟩
class FnQ {α : Type} (Q : α → List D → Prop) : Prop where
  eq : ∀ x d d', Q x d → Q x d' → d = d'
instance : FnQ qN := ⟨fun _ _ _ h k => by rw [show _ = _ from h, show _ = _ from k]⟩
instance {α : Type} {E : RE α} [FnE E] : FnQ (q1 E) := ⟨fun _ _ _ ⟨_, e, h⟩ ⟨_, e', h'⟩ => by rw [e, e', FnE.eq _ _ _ h h']⟩
instance {α β : Type} {E : RE α} {Q : β → List D → Prop} [FnE E] [FnQ Q] : FnQ (qC E Q) := ⟨fun _ _ _ ⟨_, _, e, h, q⟩ ⟨_, _, e', h', q'⟩ => by rw [e, e', FnE.eq _ _ _ h h', FnQ.eq _ _ _ q q']⟩
instance {α : Type} {Q : α → List D → Prop} [FnQ Q] : FnE (eQ Q) := ⟨fun _ _ _ ⟨_, e, h⟩ ⟨_, e', h'⟩ => by rw [e, e', FnQ.eq _ _ _ h h']⟩
/-- numbers, texts, truth values and tuples of these -/
class TfE {α : Type} (E : RE α) : Prop where
  tf : ∀ x d, E x d → d.tfl = true
theorem a2_tf {α : Type} {E : RE α} (h : ∀ x d, E x d → d.tfl = true) : ∀ {l : List α} {r : List D}, A2 E l r → D.tfls r = true
  | [], _, a => by rw [show _ = [] from a]; rfl
  | x :: l, _, ⟨d, r, e, h1, t⟩ => by rw [e]; exact Bool.and_eq_true_iff.mpr ⟨h x d h1, a2_tf h t⟩
instance : TfE eI := ⟨fun _ _ h => by rw [show _ = _ from h]; rfl⟩
instance : TfE eB := ⟨fun _ _ h => by rw [show _ = _ from h]; rfl⟩
instance : TfE eS := ⟨fun _ _ h => by rw [show _ = _ from h]; rfl⟩
theorem tfls_ints : ∀ l : List Int, D.tfls (l.map D.int) = true
  | [] => rfl
  | _ :: l => Bool.and_eq_true_iff.mpr ⟨rfl, tfls_ints l⟩
instance : TfE eR := ⟨fun x _ h => by rw [show _ = _ from h]; exact tfls_ints x⟩
instance {α : Type} {E : RE α} [TfE E] : TfE (eT E) := ⟨fun _ _ ⟨_, e, h⟩ => by rw [e]; exact a2_tf TfE.tf h⟩
class TfQ {α : Type} (Q : α → List D → Prop) : Prop where
  tf : ∀ x d, Q x d → D.tfls d = true
instance : TfQ qN := ⟨fun _ _ h => by rw [show _ = _ from h]; rfl⟩
instance {α : Type} {E : RE α} [TfE E] : TfQ (q1 E) := ⟨fun _ _ ⟨_, e, h⟩ => by rw [e]; exact Bool.and_eq_true_iff.mpr ⟨TfE.tf _ _ h, rfl⟩⟩
instance {α β : Type} {E : RE α} {Q : β → List D → Prop} [TfE E] [TfQ Q] : TfQ (qC E Q) := ⟨fun _ _ ⟨_, _, e, h, q⟩ => by rw [e]; exact Bool.and_eq_true_iff.mpr ⟨TfE.tf _ _ h, TfQ.tf _ _ q⟩⟩
instance {α : Type} {Q : α → List D → Prop} [TfQ Q] : TfE (eQ Q) := ⟨fun _ _ ⟨_, e, h⟩ => by rw [e]; exact TfQ.tf _ _ h⟩
/-- the names' data are told by what is known -/
class FnKs (ρ : KEnv) : Prop where
  eq : ∀ (j : Nat) (P : Kn) (d : D) (o : Bool) (d' : D) (o' : Bool), ρ[j]? = some (some P) → P d o → P d' o' → d = d' ∧ o = o'
instance : FnKs [] := ⟨fun j P d o d' o' h => by simp at h⟩
instance {ρ : KEnv} [FnKs ρ] : FnKs (none :: ρ) := ⟨fun j P d o d' o' h => by
  cases j with
  | zero => cases h
  | succ j => exact FnKs.eq (ρ := ρ) j P d o d' o' (by simpa using h)⟩
instance {α : Type} {E : RE α} {x : α} {ρ : KEnv} [FnE E] [FnKs ρ] : FnKs (some (sh E x) :: ρ) := ⟨fun j P d o d' o' h => by
  cases j with
  | zero => cases h; exact fun ⟨a, b⟩ ⟨c, e⟩ => ⟨FnE.eq _ _ _ a c, b.trans e.symm⟩
  | succ j => exact FnKs.eq (ρ := ρ) j P d o d' o' (by simpa using h)⟩
instance {α : Type} {E : RE α} {x : α} {ρ : KEnv} [FnE E] [FnKs ρ] : FnKs (some (ow E x) :: ρ) := ⟨fun j P d o d' o' h => by
  cases j with
  | zero => cases h; exact fun ⟨a, b⟩ ⟨c, e⟩ => ⟨FnE.eq _ _ _ a c, b.trans e.symm⟩
  | succ j => exact FnKs.eq (ρ := ρ) j P d o d' o' (by simpa using h)⟩
section
variable {α β γ R S T : Type} {ρ ρ' : KEnv} {b : DL.Env → Out}
end
end DL

/-! readings: sorted(set(t)) of rows -/
namespace DL
open PySem PySem.Spec PyProof.Rows L2
noncomputable def sortSetR (l : List (List Int)) : Res (List (List Int)) := if (nubR l).length < 64 ∧ l.length ≤ 100000 then .ok (sortK (nubR l)) else .bad
end DL

/-! readings: plain tuples put together with others, sorted, made a set -/
namespace DL
open PySem PySem.Spec PyProof.Rows L2
theorem o_catM (l k : List (List Int)) : ∀ x y, ePT eR l x → eT eR k y → Rf (dCatM x y) (catR l k) (eX eR) := by
  rintro _ _ ⟨ds, rfl, r⟩ ⟨es, rfl, t⟩
  unfold catR
  dsimp only [dCatM]
  rw [← r.length, ← t.length]
  by_cases h : ds.length + es.length ≤ sizeLine
  · rw [if_pos h, if_pos (show Fits _ from h)]
    refine ⟨_, rfl, ?_⟩
    by_cases h1 : ds = []
    · subst h1
      rw [if_pos rfl]
      have : l = [] := List.length_eq_zero_iff.mp r.length.symm
      subst this
      exact ⟨es, .inr (.inl rfl), t⟩
    · rw [if_neg h1]
      by_cases h2 : es = []
      · subst h2
        rw [if_pos rfl]
        have : k = [] := List.length_eq_zero_iff.mp t.length.symm
        subst this
        rw [List.append_nil]
        exact ⟨ds, .inr (.inr rfl), r⟩
      · rw [if_neg h2]
        exact ⟨ds ++ es, .inr (.inl rfl), r.append t⟩
  · rw [if_neg h, if_neg (show ¬ Fits _ from h)]; trivial
theorem o_sortXK (l : List (List Int)) : ∀ x, eX eR l x → Rf (dSortedX x) (sortKR l) (eL eR) := by
  rintro x ⟨ds, h, r⟩
  have e : ds = l.map ans := A2.fn.mp r
  have hi : x.itemsX = some (l.map ans) := by rcases h with rfl | rfl | rfl <;> (rw [e]; rfl)
  have := sort_K l (x := .lst (l.map ans)) rfl
  unfold dSorted at this
  unfold dSortedX
  rw [hi]
  exact this
theorem o_sortSetP (l : List (List Int)) : ∀ x, ePT eR l x → Rf (dSortSetP x) (sortSetR l) (eL eR) := by
  rintro _ ⟨ds, rfl, r⟩
  rw [A2.fn.mp r]
  unfold sortSetR
  show Rf (dSortSetP (.con (rowsD l))) _ _
  dsimp only [dSortSetP]
  rw [rws_rows]
  dsimp only
  by_cases h : (nubR l).length < 64 ∧ l.length ≤ 100000
  · rw [if_pos h, if_pos h]
    exact ⟨_, rfl, _, rfl, A2.fn.mpr rfl⟩
  · rw [if_neg h, if_neg h]; trivial
end DL

namespace DL
open PySem PySem.Spec PyProof.Rows L2
theorem dv {X : Cx} {W : WX} {A : Nat → Prop} (i : Nat) {x : Str} {pos : Pos} (hN : X.N[i]? = some x := by rfl) (hv : Vis X.env.scope x := by first | exact .inl rfl | exact .inr (.inl rfl) | exact .inr (.inr rfl)) (hd : (x == ("__debug__" : Str)) = false := by decide) (hcd : (x == ("__classdict__" : Str)) = false := by decide) : DE X W A (.Name x pos) (eVarS i) := de_vs hN hv hd hcd
theorem vN {ρ : KEnv} (n : Int) : EvR ρ (eC (.int n)) (.ok n) eI := v_c (E := eI) (a := n) rfl
theorem szl {n : Nat} (h : n ≤ 1000000) : n ≤ sizeLine := by rw [PySem.sizeLine_eq]; omega
end DL

namespace DLaw
open DL PySem PySem.Spec PyProof.Rows L2
open PySem.Builtin.Int (intBits)
def top (i : Nat) : Stmt := PySem.Challenge.pw_blurdesk_k20_heaps_apart.main.body.getD i (.Pass ⟨0, 0, 0, 0⟩)
/-! what the top says of the built-ins and errors -/
structure Txt (K : PySem.W.Frag) (mg : Str → Option Value) : Prop where
  z_len : mg "len" = none
  z_range : mg "range" = none
  z_tuple : mg "tuple" = none
  z_sorted : mg "sorted" = none
  z_abs : mg "abs" = none
  z_sum : mg "sum" = none
  z_isinstance : mg "isinstance" = none
  z_int : mg "int" = none
  z_bool : mg "bool" = none
  z_set : mg "set" = none
/-! _law_cell_at -/
abbrev s_l_cell_at : Stmt := top 7
noncomputable def b_l_cell_at : DL.Env → Out := (sSeq (sIf [] (bTest dLt (eVarS 1) (e1 dLen (eVarS 0))) (sSeq (sRet [] (eOp dIxA (eVarS 0) (eVarS 1))) sSkip) sSkip) (sSeq (sRet [] (eC (.int 0))) sSkip))
noncomputable def F_l_cell_at : List D → Res D := runDef 2 2 b_l_cell_at
/-! _law_mix -/
abbrev s_l_mix : Stmt := top 3
noncomputable def b_l_mix : DL.Env → Out := (sSeq (sSet [] 2 (eOp dMod (eOp dAdd (eOp dMul (eVarS 0) (eC (.int 48271))) (eOp dMul (eOp dMul (eOp dAdd (eVarS 1) (eC (.int 1))) (eOp dAdd (eVarS 1) (eC (.int 1)))) (eC (.int 69621)))) (eC (.int 2147483647)))) (sSeq (sRet [] (eOp dMod (eOp dMul (eVarS 2) (eVarS 2)) (eC (.int 2147483629)))) sSkip))
noncomputable def F_l_mix : List D → Res D := runDef 2 3 b_l_mix
/-! _law_number -/
abbrev s_l_number : Stmt := top 4
noncomputable def b_l_number : DL.Env → Out := (sSeq (sSet [] 3 (eCall F_l_mix (aCons (eVarS 0) (aCons (eVarS 1) aNil)))) (sSeq (sIf [] (bTest dEq (eOp dMod (eVarS 3) (eC (.int 5))) (eC (.int 0))) (sSeq (sRet [] (eOp dSub (eOp dMod (eVarS 0) (eOp dAdd (eOp dMul (eC (.int 2)) (eOp dPow (eC (.int 10)) (eC (.int 18)))) (eC (.int 1)))) (eOp dPow (eC (.int 10)) (eC (.int 18))))) sSkip) sSkip) (sSeq (sRet [] (eOp dSub (eOp dMod (eOp dDiv (eVarS 3) (eC (.int 5))) (eVarS 2)) (eOp dDiv (eVarS 2) (eC (.int 2))))) sSkip)))
noncomputable def F_l_number : List D → Res D := runDef 3 4 b_l_number
/-! _law_heap -/
abbrev s_l_heap : Stmt := top 9
noncomputable def b_l_heap_1 : DL.Env → Out := (sSeq (sMut [] 3 gAppend (aCons (e1 dTuple (eComp [5] (.nm 5) (iRange1 (eVarS 1)) bYes (eCall F_l_number (aCons (eVarS 4) (aCons (eOp dAdd (eC (.int 11)) (eOp dMul (eC (.int 3)) (eVarS 5))) (aCons (eVarS 2) aNil)))))) aNil)) sSkip)
noncomputable def b_l_heap : DL.Env → Out := (sSeq (sSet [] 2 (eOp dIxA (eLst (aCons (eC (.int 7)) (aCons (eC (.int 3)) (aCons (eC (.int 3)) (aCons (eC (.int 2)) aNil))))) (eOp dSub (eVarS 1) (eC (.int 1))))) (sSeq (sSetF [] 3 (eLst aNil)) (sSeq (sFor [] (.nm 4) (iSeq (eVarS 0)) b_l_heap_1) (sSeq (sRet [] (e1 dTuple (e1 dSorted (eVar 3)))) sSkip))))
noncomputable def F_l_heap : List D → Res D := runDef 2 6 b_l_heap
/-! heaps_apart -/
abbrev s_heaps_apart : Stmt := top 1
noncomputable def b_heaps_apart_1 : DL.Env → Out := (sSeq (sPutD [] 2 (eVarS 3) (eOp dAdd (eGet2 (eVar 2) (eVarS 3) (eC (.int 0))) (eC (.int 1)))) sSkip)
noncomputable def b_heaps_apart_2 : DL.Env → Out := (sSeq (sPutD [] 2 (eVarS 3) (eOp dSub (eGet2 (eVar 2) (eVarS 3) (eC (.int 0))) (eC (.int 1)))) sSkip)
noncomputable def b_heaps_apart : DL.Env → Out := (sSeq (sSetF [] 2 (eDNew true)) (sSeq (sFor [] (.nm 3) (iSeq (eVarS 0)) b_heaps_apart_1) (sSeq (sFor [] (.nm 3) (iSeq (eVarS 1)) b_heaps_apart_2) (sSeq (sRet [2] (e1 dSum (eComp [4] (.nm 4) (iValsD (eVar 2)) bYes (e1 dAbs (eVarS 4))))) sSkip))))
noncomputable def F_heaps_apart : List D → Res D := runDef 2 5 b_heaps_apart
/-! _law_whole -/
abbrev s_l_whole : Stmt := top 11
noncomputable def b_l_whole : DL.Env → Out := (sSeq (sRet [] (eAnd (e1 isInt (eVarS 0)) (eNot (e1 isBool (eVarS 0))))) sSkip)
noncomputable def F_l_whole : List D → Res D := runDef 1 1 b_l_whole
/-! _law_due -/
abbrev s_l_due : Stmt := top 10
noncomputable def b_l_due_1 : DL.Env → Out := (sSeq (sSet [] 2 (eOp dAdd (eVarS 2) (e1 dAbs (eOp dSub (eMethP dCountP (eVarS 0) (aCons (eVarS 3) aNil)) (eMethP dCountP (eVarS 1) (aCons (eVarS 3) aNil)))))) sSkip)
noncomputable def b_l_due : DL.Env → Out := (sSeq (sSet [] 2 (eC (.int 0))) (sSeq (sFor [] (.nm 3) (iSeq (e1 dSortSetP (eOp dCatP (eVarS 0) (eVarS 1)))) b_l_due_1) (sSeq (sRet [] (eVarS 2)) sSkip)))
noncomputable def F_l_due : List D → Res D := runDef 2 4 b_l_due
/-! law -/
abbrev s_law : Stmt := top 12
noncomputable def b_law_1 : DL.Env → Out := (sSeq (sSet [] 4 (eCall F_l_mix (aCons (eVarS 3) (aCons (eC (.int 270)) aNil)))) (sSeq (sSet [] 5 (eCall F_l_heap (aCons (eLst (aCons (eVarS 3) aNil)) (aCons (eVarS 1) aNil)))) (sSeq (sPutL [] 2 (eOp dMod (eVarS 4) (eC (.int 3))) (eOp dAdd (eOp dIxA (eVar 2) (eOp dMod (eVarS 4) (eC (.int 3)))) (eVarS 5))) (sSeq (sIf [] (bTest dEq (eOp dMod (eOp dDiv (eVarS 4) (eC (.int 3))) (eC (.int 2))) (eC (.int 0))) (sSeq (sPutL [] 2 (eOp dMod (eOp dDiv (eVarS 4) (eC (.int 6))) (eC (.int 3))) (eOp dAdd (eOp dIxA (eVar 2) (eOp dMod (eOp dDiv (eVarS 4) (eC (.int 6))) (eC (.int 3)))) (eVarS 5))) sSkip) sSkip) sSkip))))
noncomputable def b_law_2 : DL.Env → Out := (sSeq (sSet [] 8 (eOp dIxA (eVar 2) (eVarS 7))) (sSeq (sSet [] 9 (eOp dIxA (eVar 2) (eOp dMod (eOp dAdd (eVarS 7) (eC (.int 1))) (eC (.int 3))))) (sSeq (sSet [] 10 (eCall F_heaps_apart (aCons (eVarS 8) (aCons (eVarS 9) aNil)))) (sSeq (sIf [] (bOr (bNot (bTruth (eCall F_l_whole (aCons (eVarS 10) aNil)))) (bOr (bTest dNe (eVarS 10) (eCall F_l_due (aCons (eVarS 8) (aCons (eVarS 9) aNil)))) (bTest dNe (eCall F_heaps_apart (aCons (eVarS 9) (aCons (eVarS 8) aNil))) (eVarS 10)))) (sSeq (sRet [] (eC (.bl false))) sSkip) sSkip) (sSeq (sIf [] (bOr (bTest dNe (eOp dEq (eVarS 10) (eC (.int 0))) (eOp dEq (eVarS 8) (eVarS 9))) (bTest dNe (eCall F_heaps_apart (aCons (eVarS 8) (aCons (eVarS 8) aNil))) (eC (.int 0)))) (sSeq (sRet [] (eC (.bl false))) sSkip) sSkip) (sSeq (sSet [] 11 (eOp dIxA (eVar 2) (eOp dMod (eOp dAdd (eVarS 7) (eC (.int 2))) (eC (.int 3))))) (sSeq (sIf [] (bTest dGt (eVarS 10) (eOp dAdd (eCall F_heaps_apart (aCons (eVarS 8) (aCons (eVarS 11) aNil))) (eCall F_heaps_apart (aCons (eVarS 11) (aCons (eVarS 9) aNil))))) (sSeq (sRet [] (eC (.bl false))) sSkip) sSkip) (sSeq (sSet [] 12 (e1 dTupleP (e1 dSortedX (eOp dCatM (eVarS 8) (eCall F_l_heap (aCons (eLst (aCons (eOp dAdd (e1 dSum (eVarS 0)) (eVarS 7)) aNil)) (aCons (eVarS 1) aNil))))))) (sSeq (sIf [] (bOr (bTest dNe (eCall F_heaps_apart (aCons (eVarS 8) (aCons (eVarS 12) aNil))) (eC (.int 1))) (bTest dNe (e1 dAbs (eOp dSub (eCall F_heaps_apart (aCons (eVarS 12) (aCons (eVarS 9) aNil))) (eVarS 10))) (eC (.int 1)))) (sSeq (sRet [] (eC (.bl false))) sSkip) sSkip) sSkip)))))))))
noncomputable def b_law : DL.Env → Out := (sSeq (sSet [] 1 (eOp dAdd (eC (.int 1)) (eOp dMod (eCall F_l_cell_at (aCons (eVarS 0) (aCons (eC (.int 0)) aNil))) (eC (.int 4))))) (sSeq (sSetF [] 2 (eLst (aCons (eTup aNil) (aCons (eTup aNil) (aCons (eTup aNil) aNil))))) (sSeq (sFor [] (.nm 3) (iSeq (eCut (eVarS 0) oNone (oSome (eC (.int 120))))) b_law_1) (sSeq (sSetF [2] 2 (eComp [6] (.nm 6) (iSeq (eVar 2)) bYes (e1 dTupleP (e1 dSorted (eVarS 6))))) (sSeq (sFor [] (.nm 7) (iRange1 (eC (.int 3))) b_law_2) (sSeq (sRet [] (eC (.bl true))) sSkip))))))
noncomputable def F_law : List D → Res D := runDef 1 13 b_law
-- LIBS 
noncomputable def t_l_cell_at (script : (List Int)) (k : Int) : Res Int :=
  if k < ((script.length : Nat) : Int) then
  (getL script k)
else
  Res.ok (0 : Int)
theorem r_l_cell_at : CallR F_l_cell_at (qC (eL eI) (q1 eI)) (fun (a : (List Int) × Int) => t_l_cell_at a.1 a.2) eI := by
  rintro ⟨script, k⟩ _ ⟨d0, _, rfl, h0, ⟨d1, rfl, h1⟩⟩
  refine r_def (n := 2) (m := 2) (k := 0) (ρ := ([some (sh (eL eI) script), some (sh eI k)] : KEnv)) (LeA.cons h0 (LeA.cons h1 LeA.nil)) rfl ?_
  exact (j_ifsP (al := []) (b_test (v_opp (o_lt _ _) (v_s (E := eI) (a := k) (i := 1) rfl) (v_1p (o_lenL _) (v_s (E := (eL eI)) (a := script) (i := 0) rfl)))) (j_assoc (j_retT (v_opp (o_ixAL _ _) (v_s (E := (eL eI)) (a := script) (i := 0) rfl) (v_s (E := eI) (a := k) (i := 1) rfl)))) (j_skip (j_retT (vN 0))))
theorem c_l_cell_at {ρ : KEnv} {fs : DL.Env → Res (List D)} {x0 : (List Int)} {x1 : Int} (h : EvR ρ fs (.ok (x0, x1)) (qC (eL eI) (q1 eI))) : EvR ρ (eCall F_l_cell_at fs) (t_l_cell_at x0 x1) eI := v_callp (t := fun a : (List Int) × Int => t_l_cell_at a.1 a.2) (a := (x0, x1)) r_l_cell_at h
theorem m_l_cell_at {ρ : KEnv} {fs : DL.Env → Res (List D)} {r : Res ((List Int) × Int)} (h : EvR ρ fs r (qC (eL eI) (q1 eI))) : EvR ρ (eCall F_l_cell_at fs) (r.bind fun a => t_l_cell_at a.1 a.2) eI := v_call (t := fun a : (List Int) × Int => t_l_cell_at a.1 a.2) r_l_cell_at h
noncomputable def t_l_mix (cell : Int) (k : Int) : Res Int :=
  (((mulR cell (48271 : Int)).bind fun a3 => ((mulR (k + (1 : Int)) (k + (1 : Int))).bind fun a1 => (mulR a1 (69621 : Int))).bind fun b4 => .ok (a3 + b4)).bind fun a5 => .ok (a5 % (2147483647 : Int))).bind fun m6 =>
  ((mulR m6 m6).bind fun a7 => .ok (a7 % (2147483629 : Int)))
theorem r_l_mix : CallR F_l_mix (qC eI (q1 eI)) (fun (a : Int × Int) => t_l_mix a.1 a.2) eI := by
  rintro ⟨cell, k⟩ _ ⟨d0, _, rfl, h0, ⟨d1, rfl, h1⟩⟩
  refine r_def (n := 2) (m := 3) (k := 1) (ρ := ([some (sh eI cell), some (sh eI k)] : KEnv)) (LeA.cons h0 (LeA.cons h1 LeA.nil)) rfl ?_
  exact (j_do (d_set (al := []) (v_opl (fun a => o_modL a (by decide)) (v_op o_add (v_opp (o_mul _ _) (v_s (E := eI) (a := cell) (i := 0) rfl) (vN 48271)) (v_op o_mul (v_opp (o_mul _ _) (v_opp (o_add _ _) (v_s (E := eI) (a := k) (i := 1) rfl) (vN 1)) (v_opp (o_add _ _) (v_s (E := eI) (a := k) (i := 1) rfl) (vN 1))) (vN 69621))) (vN 2147483647))) (fun m6 => (j_retT (v_opl (fun a => o_modL a (by decide)) (v_opp (o_mul _ _) (v_s (E := eI) (a := m6) (i := 2) rfl) (v_s (E := eI) (a := m6) (i := 2) rfl)) (vN 2147483629)))))
theorem c_l_mix {ρ : KEnv} {fs : DL.Env → Res (List D)} {x0 : Int} {x1 : Int} (h : EvR ρ fs (.ok (x0, x1)) (qC eI (q1 eI))) : EvR ρ (eCall F_l_mix fs) (t_l_mix x0 x1) eI := v_callp (t := fun a : Int × Int => t_l_mix a.1 a.2) (a := (x0, x1)) r_l_mix h
theorem m_l_mix {ρ : KEnv} {fs : DL.Env → Res (List D)} {r : Res (Int × Int)} (h : EvR ρ fs r (qC eI (q1 eI))) : EvR ρ (eCall F_l_mix fs) (r.bind fun a => t_l_mix a.1 a.2) eI := v_call (t := fun a : Int × Int => t_l_mix a.1 a.2) r_l_mix h
noncomputable def t_l_number (cell : Int) (k : Int) (many : Int) : Res Int :=
  (t_l_mix cell k).bind fun n1 =>
  if (n1 % (5 : Int)) = (0 : Int) then
  ((((mulR (2 : Int) (10 ^ 18 : Int)).bind fun a2 => .ok (a2 + (1 : Int))).bind fun b5 => (modR cell b5)).bind fun a6 => .ok (a6 - (10 ^ 18 : Int)))
else
  ((modR (n1 / (5 : Int)) many).bind fun a8 => .ok (a8 - (many / (2 : Int))))
theorem r_l_number : CallR F_l_number (qC eI (qC eI (q1 eI))) (fun (a : Int × Int × Int) => t_l_number a.1 a.2.1 a.2.2) eI := by
  rintro ⟨cell, k, many⟩ _ ⟨d0, _, rfl, h0, ⟨d1, _, rfl, h1, ⟨d2, rfl, h2⟩⟩⟩
  refine r_def (n := 3) (m := 4) (k := 1) (ρ := ([some (sh eI cell), some (sh eI k), some (sh eI many)] : KEnv)) (LeA.cons h0 (LeA.cons h1 (LeA.cons h2 LeA.nil))) rfl ?_
  exact (j_do (d_set (al := []) (c_l_mix (vq_cp (v_s (E := eI) (a := cell) (i := 0) rfl) (vq_1 (v_s (E := eI) (a := k) (i := 1) rfl))))) (fun n1 => (j_ifsP (al := []) (b_test (v_opp ((o_eq (EqE.int _)) _ _) (v_opp (o_modL _ (by decide)) (v_s (E := eI) (a := n1) (i := 3) rfl) (vN 5)) (vN 0))) (j_assoc (j_retT (v_op o_sub (v_op o_mod (v_s (E := eI) (a := cell) (i := 0) rfl) (v_op o_add (v_opp (o_mul _ _) (vN 2) (v_opp (o_powL pow_10_18) (vN 10) (vN 18))) (vN 1))) (v_opp (o_powL pow_10_18) (vN 10) (vN 18))))) (j_skip (j_retT (v_op o_sub (v_opp (o_mod _ _) (v_opp (o_divL _ (by decide) (by decide)) (v_s (E := eI) (a := n1) (i := 3) rfl) (vN 5)) (v_s (E := eI) (a := many) (i := 2) rfl)) (v_opp (o_divL _ (by decide) (by decide)) (v_s (E := eI) (a := many) (i := 2) rfl) (vN 2))))))))
theorem c_l_number {ρ : KEnv} {fs : DL.Env → Res (List D)} {x0 : Int} {x1 : Int} {x2 : Int} (h : EvR ρ fs (.ok (x0, x1, x2)) (qC eI (qC eI (q1 eI)))) : EvR ρ (eCall F_l_number fs) (t_l_number x0 x1 x2) eI := v_callp (t := fun a : Int × Int × Int => t_l_number a.1 a.2.1 a.2.2) (a := (x0, x1, x2)) r_l_number h
theorem m_l_number {ρ : KEnv} {fs : DL.Env → Res (List D)} {r : Res (Int × Int × Int)} (h : EvR ρ fs r (qC eI (qC eI (q1 eI)))) : EvR ρ (eCall F_l_number fs) (r.bind fun a => t_l_number a.1 a.2.1 a.2.2) eI := v_call (t := fun a : Int × Int × Int => t_l_number a.1 a.2.1 a.2.2) r_l_number h
noncomputable def t_l_heap (cells : (List Int)) (width : Int) : Res (List (List Int)) :=
  (getL [(7 : Int), (3 : Int), (3 : Int), (2 : Int)] (width - (1 : Int))).bind fun many1 =>
  (forR cells ([] : List (List Int)) (fun cell3 s2 =>
  (((rng1 width).bind fun l15 => compR l15 (fun j5 => (((mulR (3 : Int) j5).bind fun b7 => .ok ((11 : Int) + b7)).bind fun a13 => t_l_number cell3 a13 many1))).bind fun a17 => appR s2 a17).bind fun rows4 =>
  Res.ok rows4) : Res ((List (List Int)))).bind fun s2 =>
  (sortKR s2)
theorem r_l_heap : CallR F_l_heap (qC (eL eI) (q1 eI)) (fun (a : (List Int) × Int) => t_l_heap a.1 a.2) (eT eR) := by
  rintro ⟨cells, width⟩ _ ⟨d0, _, rfl, h0, ⟨d1, rfl, h1⟩⟩
  refine r_def (n := 2) (m := 6) (k := 4) (ρ := ([some (sh (eL eI) cells), some (sh eI width)] : KEnv)) (LeA.cons h0 (LeA.cons h1 LeA.nil)) rfl ?_
  exact (j_do (d_set (al := []) (v_opp (o_ixAL _ _) (v_lst (vl_cp (vN 7) (vl_cp (vN 3) (vl_cp (vN 3) (vl_cp (vN 2) vl_nil))))) (v_opp (o_sub _ _) (v_s (E := eI) (a := width) (i := 1) rfl) (vN 1)))) (fun many1 => (j_go (g_setF (al := []) (v_lst (vl_nil (E := eR)))) (j_do (d_forP (al := []) (ρs := fun (s2 : ((List (List Int)))) => ([some (sh (eL eI) cells), some (sh eI width), some (sh eI many1), some (ow (eL eR) s2), none, none] : KEnv)) (ρb := fun cell3 (s2 : ((List (List Int)))) => ([some (sh (eL eI) cells), some (sh eI width), some (sh eI many1), some (ow (eL eR) s2), some (sh eI cell3), none] : KEnv)) (v_seqL (v_s (E := (eL eI)) (a := cells) (i := 0) rfl)) (Sb.same (Sb.same (Sb.same (Sb.same (Sb.drop (Sb.drop Sb.nil)))))) (fun cell3 s2 => (p_nm (i := 4))) (fun cell3 s2 => (j_do (d_app (al := []) rfl (v_1i o_tupLR (v_comp (ρb := fun j5 => ([some (sh (eL eI) cells), some (sh eI width), some (sh eI many1), some (ow (eL eR) s2), some (sh eI cell3), some (sh eI j5)] : KEnv)) (v_rng1p (v_s (E := eI) (a := width) (i := 1) rfl)) (fun j5 => (p_nm (i := 5))) (fun j5 => (v_eqr (r := ((((mulR (3 : Int) j5).bind fun b7 => .ok ((11 : Int) + b7)).bind fun a8 => .ok (a8, many1)).bind fun b11 => .ok (cell3, b11)).bind fun a => t_l_number a.1 a.2.1 a.2.2) (m_l_number (vq_c (v_s (E := eI) (a := cell3) (i := 4) rfl) (vq_c (v_op o_add (vN 11) (v_opp (o_mul _ _) (vN 3) (v_s (E := eI) (a := j5) (i := 5) rfl))) (vq_1 (v_s (E := eI) (a := many1) (i := 2) rfl))))) (by first | (simp only [Res.assoc, Res.bind_ok]; done) | (simp only [Res.assoc, Res.bind_ok]; rfl))))))) (fun rows4 => (j_endB (Sb.same (Sb.same (Sb.same (Sb.same (Sb.drop (Sb.drop Sb.nil))))))))))) (fun s2 => (j_retT (v_1i o_tupL (v_1p (o_sortLK _) (v_o (E := (eL eR)) (a := s2) (i := 3) rfl)))))))))
theorem c_l_heap {ρ : KEnv} {fs : DL.Env → Res (List D)} {x0 : (List Int)} {x1 : Int} (h : EvR ρ fs (.ok (x0, x1)) (qC (eL eI) (q1 eI))) : EvR ρ (eCall F_l_heap fs) (t_l_heap x0 x1) (eT eR) := v_callp (t := fun a : (List Int) × Int => t_l_heap a.1 a.2) (a := (x0, x1)) r_l_heap h
theorem m_l_heap {ρ : KEnv} {fs : DL.Env → Res (List D)} {r : Res ((List Int) × Int)} (h : EvR ρ fs r (qC (eL eI) (q1 eI))) : EvR ρ (eCall F_l_heap fs) (r.bind fun a => t_l_heap a.1 a.2) (eT eR) := v_call (t := fun a : (List Int) × Int => t_l_heap a.1 a.2) r_l_heap h
noncomputable def t_heaps_apart (one : (List (List Int))) (two : (List (List Int))) : Res Int :=
  (Res.ok ([] : (List ((List Int) × Int)))).bind fun left1 =>
  (forR one left1 (fun row3 s2 =>
  (putDR s2 row3 (((getG s2 row3).getD (0 : Int)) + (1 : Int))).bind fun left4 =>
  Res.ok left4) : Res ((List ((List Int) × Int)))).bind fun s2 =>
  (forR two s2 (fun row6 s5 =>
  (putDR s5 row6 (((getG s5 row6).getD (0 : Int)) - (1 : Int))).bind fun left7 =>
  Res.ok left7) : Res ((List ((List Int) × Int)))).bind fun s5 =>
  ((compR (s5.map (·.2)) (fun many8 => (Res.ok ((many8.natAbs : Nat) : Int)))).bind fun a9 => .ok a9.sum)
theorem r_heaps_apart : CallR F_heaps_apart (qC (ePT eR) (q1 (ePT eR))) (fun (a : (List (List Int)) × (List (List Int))) => t_heaps_apart a.1 a.2) eI := by
  rintro ⟨one, two⟩ _ ⟨d0, _, rfl, h0, ⟨d1, rfl, h1⟩⟩
  refine r_def (n := 2) (m := 5) (k := 3) (ρ := ([some (sh (ePT eR) one), some (sh (ePT eR) two)] : KEnv)) (LeA.cons h0 (LeA.cons h1 LeA.nil)) rfl ?_
  exact (j_do (d_setF (al := []) v_dnew) (fun left1 => (j_do (d_forP (al := []) (ρs := fun (s2 : ((List ((List Int) × Int)))) => ([some (sh (ePT eR) one), some (sh (ePT eR) two), some (ow (eM true ans eI) s2), none, none] : KEnv)) (ρb := fun row3 (s2 : ((List ((List Int) × Int)))) => ([some (sh (ePT eR) one), some (sh (ePT eR) two), some (ow (eM true ans eI) s2), some (sh eR row3), none] : KEnv)) (v_seqPT (v_s (E := (ePT eR)) (a := one) (i := 0) rfl)) (Sb.same (Sb.same (Sb.same (Sb.drop (Sb.drop Sb.nil))))) (fun row3 s2 => (p_nm (i := 3))) (fun row3 s2 => (j_do (ρs := fun left4 => ([some (sh (ePT eR) one), some (sh (ePT eR) two), some (ow (eM true ans eI) left4), some (sh eR row3), none] : KEnv)) (d_putDP KeyF.row (al := []) rfl (v_keyR (v_s (E := eR) (a := row3) (i := 3) rfl)) (v_opp (o_add _ _) (v_get2p KeyF.row (v_o (E := (eM true ans eI)) (a := s2) (i := 2) rfl) (v_keyR (v_s (E := eR) (a := row3) (i := 3) rfl)) (vN 0)) (vN 1))) (fun left4 => (j_endB (Sb.same (Sb.same (Sb.same (Sb.drop (Sb.drop Sb.nil)))))))))) (fun s2 => (j_do (d_forP (al := []) (ρs := fun (s5 : ((List ((List Int) × Int)))) => ([some (sh (ePT eR) one), some (sh (ePT eR) two), some (ow (eM true ans eI) s5), none, none] : KEnv)) (ρb := fun row6 (s5 : ((List ((List Int) × Int)))) => ([some (sh (ePT eR) one), some (sh (ePT eR) two), some (ow (eM true ans eI) s5), some (sh eR row6), none] : KEnv)) (v_seqPT (v_s (E := (ePT eR)) (a := two) (i := 1) rfl)) (Sb.same (Sb.same (Sb.same (Sb.drop (Sb.drop Sb.nil))))) (fun row6 s5 => (p_nm (i := 3))) (fun row6 s5 => (j_do (ρs := fun left7 => ([some (sh (ePT eR) one), some (sh (ePT eR) two), some (ow (eM true ans eI) left7), some (sh eR row6), none] : KEnv)) (d_putDP KeyF.row (al := []) rfl (v_keyR (v_s (E := eR) (a := row6) (i := 3) rfl)) (v_opp (o_sub _ _) (v_get2p KeyF.row (v_o (E := (eM true ans eI)) (a := s5) (i := 2) rfl) (v_keyR (v_s (E := eR) (a := row6) (i := 3) rfl)) (vN 0)) (vN 1))) (fun left7 => (j_endB (Sb.same (Sb.same (Sb.same (Sb.drop (Sb.drop Sb.nil)))))))))) (fun s5 => (j_retT (v_1 o_sum (v_compP (ρb := fun many8 => ([some (sh (ePT eR) one), some (sh (ePT eR) two), some (ow (eM true ans eI) s5), none, some (sh eI many8)] : KEnv)) (v_valsMp (v_o (E := (eM true ans eI)) (a := s5) (i := 2) rfl)) (fun many8 => (p_nm (i := 4))) (fun many8 => (v_1p (o_abs _) (v_s (E := eI) (a := many8) (i := 4) rfl))))))))))))
theorem c_heaps_apart {ρ : KEnv} {fs : DL.Env → Res (List D)} {x0 : (List (List Int))} {x1 : (List (List Int))} (h : EvR ρ fs (.ok (x0, x1)) (qC (ePT eR) (q1 (ePT eR)))) : EvR ρ (eCall F_heaps_apart fs) (t_heaps_apart x0 x1) eI := v_callp (t := fun a : (List (List Int)) × (List (List Int)) => t_heaps_apart a.1 a.2) (a := (x0, x1)) r_heaps_apart h
theorem m_heaps_apart {ρ : KEnv} {fs : DL.Env → Res (List D)} {r : Res ((List (List Int)) × (List (List Int)))} (h : EvR ρ fs r (qC (ePT eR) (q1 (ePT eR)))) : EvR ρ (eCall F_heaps_apart fs) (r.bind fun a => t_heaps_apart a.1 a.2) eI := v_call (t := fun a : (List (List Int)) × (List (List Int)) => t_heaps_apart a.1 a.2) r_heaps_apart h
noncomputable def t_l_whole (found : Int) : Res Bool :=
  Res.ok (decide ((true = true) ∧ (¬ (false = true))))
theorem r_l_whole : CallR F_l_whole (q1 eI) (fun (a : Int) => t_l_whole a) eB := by
  rintro found _ ⟨d0, rfl, h0⟩
  refine r_def (n := 1) (m := 1) (k := 0) (ρ := ([some (sh eI found)] : KEnv)) (LeA.cons h0 LeA.nil) rfl ?_
  exact (j_retT (v_andP (v_P (v_1p (isInt_Int _) (v_s (E := eI) (a := found) (i := 0) rfl))) (v_notP (v_P (v_1p (isBool_Int _) (v_s (E := eI) (a := found) (i := 0) rfl))))))
theorem c_l_whole {ρ : KEnv} {fs : DL.Env → Res (List D)} {x0 : Int} (h : EvR ρ fs (.ok x0) (q1 eI)) : EvR ρ (eCall F_l_whole fs) (t_l_whole x0) eB := v_callp (t := fun a : Int => t_l_whole a) (a := x0) r_l_whole h
theorem m_l_whole {ρ : KEnv} {fs : DL.Env → Res (List D)} {r : Res (Int)} (h : EvR ρ fs r (q1 eI)) : EvR ρ (eCall F_l_whole fs) (r.bind fun a => t_l_whole a) eB := v_call (t := fun a : Int => t_l_whole a) r_l_whole h
noncomputable def t_l_due (one : (List (List Int))) (other : (List (List Int))) : Res Int :=
  (((catR one other).bind fun a1 => (sortSetR a1)).bind fun l5 => forR l5 (0 : Int) (fun row3 s2 =>
  (Res.ok (s2 + (((((one.count row3 : Nat) : Int) - ((other.count row3 : Nat) : Int)).natAbs : Nat) : Int))).bind fun far4 =>
  Res.ok far4) : Res (Int)).bind fun s2 =>
  Res.ok s2
theorem r_l_due : CallR F_l_due (qC (ePT eR) (q1 (ePT eR))) (fun (a : (List (List Int)) × (List (List Int))) => t_l_due a.1 a.2) eI := by
  rintro ⟨one, other⟩ _ ⟨d0, _, rfl, h0, ⟨d1, rfl, h1⟩⟩
  refine r_def (n := 2) (m := 4) (k := 2) (ρ := ([some (sh (ePT eR) one), some (sh (ePT eR) other)] : KEnv)) (LeA.cons h0 (LeA.cons h1 LeA.nil)) rfl ?_
  exact (j_go (g_set (al := []) (vN 0)) (j_do (d_for (al := []) (ρs := fun (s2 : (Int)) => ([some (sh (ePT eR) one), some (sh (ePT eR) other), some (sh eI s2), none] : KEnv)) (ρb := fun row3 (s2 : (Int)) => ([some (sh (ePT eR) one), some (sh (ePT eR) other), some (sh eI s2), some (sh eR row3)] : KEnv)) (v_seqL (v_1 o_sortSetP (v_opp (o_catPT _ _) (v_s (E := (ePT eR)) (a := one) (i := 0) rfl) (v_s (E := (ePT eR)) (a := other) (i := 1) rfl)))) (Sb.same (Sb.same (Sb.same (Sb.drop Sb.nil)))) (fun row3 s2 => (p_nm (i := 3))) (fun row3 s2 => (j_do (d_set (al := []) (v_opp (o_add _ _) (v_s (E := eI) (a := s2) (i := 2) rfl) (v_1p (o_abs _) (v_opp (o_sub _ _) (v_methP2 ty_PT o_cntPT (v_s (E := (ePT eR)) (a := one) (i := 0) rfl) (v_s (E := eR) (a := row3) (i := 3) rfl)) (v_methP2 ty_PT o_cntPT (v_s (E := (ePT eR)) (a := other) (i := 1) rfl) (v_s (E := eR) (a := row3) (i := 3) rfl)))))) (fun far4 => (j_endB (Sb.same (Sb.same (Sb.same (Sb.drop Sb.nil))))))))) (fun s2 => (j_retT (v_s (E := eI) (a := s2) (i := 2) rfl)))))
theorem c_l_due {ρ : KEnv} {fs : DL.Env → Res (List D)} {x0 : (List (List Int))} {x1 : (List (List Int))} (h : EvR ρ fs (.ok (x0, x1)) (qC (ePT eR) (q1 (ePT eR)))) : EvR ρ (eCall F_l_due fs) (t_l_due x0 x1) eI := v_callp (t := fun a : (List (List Int)) × (List (List Int)) => t_l_due a.1 a.2) (a := (x0, x1)) r_l_due h
theorem m_l_due {ρ : KEnv} {fs : DL.Env → Res (List D)} {r : Res ((List (List Int)) × (List (List Int)))} (h : EvR ρ fs r (qC (ePT eR) (q1 (ePT eR)))) : EvR ρ (eCall F_l_due fs) (r.bind fun a => t_l_due a.1 a.2) eI := v_call (t := fun a : (List (List Int)) × (List (List Int)) => t_l_due a.1 a.2) r_l_due h
noncomputable def t_law (script : (List Int)) : Res Bool :=
  (((t_l_cell_at script (0 : Int)).bind fun a1 => .ok (a1 % (4 : Int))).bind fun b3 => .ok ((1 : Int) + b3)).bind fun width4 =>
  (Res.ok [([] : List (List Int)), ([] : List (List Int)), ([] : List (List Int))]).bind fun heaps5 =>
  (forR (cutL script none (some (120 : Int))) heaps5 (fun cell7 s6 =>
  (t_l_mix cell7 (270 : Int)).bind fun n8 =>
  (t_l_heap [cell7] width4).bind fun row9 =>
  (((getL s6 (n8 % (3 : Int))).bind fun a11 => (catR a11 row9)).bind fun a13 => putLR s6 (n8 % (3 : Int)) a13).bind fun heaps10 =>
  (if ((n8 / (3 : Int)) % (2 : Int)) = (0 : Int) then (((getL heaps10 ((n8 / (6 : Int)) % (3 : Int))).bind fun a17 => (catR a17 row9)).bind fun a19 => putLR heaps10 ((n8 / (6 : Int)) % (3 : Int)) a19).bind fun heaps16 =>
  Res.ok heaps16 else Res.ok heaps10 : Res ((List (List (List Int))))).bind fun z15 =>
  Res.ok z15) : Res ((List (List (List Int))))).bind fun s6 =>
  (compR s6 (fun heap_here21 => (sortKR heap_here21))).bind fun heaps23 =>
  thenX ((rng1 (3 : Int)).bind fun l52 => forX l52 () (fun j25 s24 =>
  (getL heaps23 j25).bind fun one26 =>
  (getL heaps23 ((j25 + (1 : Int)) % (3 : Int))).bind fun other27 =>
  (t_heaps_apart one26 other27).bind fun far28 =>
  (((t_l_whole far28).bind fun z => .ok (!z)).bind fun z => if z = true then .ok true else (((t_l_due one26 other27).bind fun b30 => .ok (decide (far28 ≠ b30))).bind fun z => if z = true then .ok true else ((t_heaps_apart other27 one26).bind fun a31 => .ok (decide (a31 ≠ far28))))).bind fun z => if z = true then
  Res.ok (.rt false)
else
  (if (decide (far28 = (0 : Int))) ≠ (decide (one26 = other27)) then .ok true else ((t_heaps_apart one26 one26).bind fun a33 => .ok (decide (a33 ≠ (0 : Int))))).bind fun z => if z = true then
  Res.ok (.rt false)
else
  (getL heaps23 ((j25 + (2 : Int)) % (3 : Int))).bind fun third35 =>
  (((t_heaps_apart one26 third35).bind fun a36 => (t_heaps_apart third35 other27).bind fun b37 => .ok (a36 + b37)).bind fun b39 => .ok (decide (b39 < far28))).bind fun z => if z = true then
  Res.ok (.rt false)
else
  (((t_l_heap [(script.sum + j25)] width4).bind fun b41 => (catR one26 b41)).bind fun a42 => (sortKR a42)).bind fun more44 =>
  (((t_heaps_apart one26 more44).bind fun a45 => .ok (decide (a45 ≠ (1 : Int)))).bind fun z => if z = true then .ok true else ((((t_heaps_apart more44 other27).bind fun a47 => .ok (a47 - far28)).bind fun a49 => .ok ((a49.natAbs : Nat) : Int)).bind fun a50 => .ok (decide (a50 ≠ (1 : Int))))).bind fun z => if z = true then
  Res.ok (.rt false)
else
  Res.ok (.nx ())) : Res (Oc Unit Bool)) (fun v => v) fun s24 =>
  Res.ok true
theorem r_law : CallR F_law (q1 (eL eI)) (fun (a : (List Int)) => t_law a) eB := by
  rintro script _ ⟨d0, rfl, h0⟩
  refine r_def (n := 1) (m := 13) (k := 12) (ρ := ([some (sh (eL eI) script)] : KEnv)) (LeA.cons h0 LeA.nil) rfl ?_
  exact (j_do (d_set (al := []) (v_op o_add (vN 1) (v_opl (fun a => o_modL a (by decide)) (c_l_cell_at (vq_cp (v_s (E := (eL eI)) (a := script) (i := 0) rfl) (vq_1 (vN 0)))) (vN 4)))) (fun width4 => (j_do (d_setF (al := []) (v_lst (vl_cp (v_tupT (vl_nil (E := eR))) (vl_cp (v_tupT (vl_nil (E := eR))) (vl_cp (v_tupT (vl_nil (E := eR))) vl_nil))))) (fun heaps5 => (j_do (d_forP (al := []) (ρs := fun (s6 : ((List (List (List Int))))) => ([some (sh (eL eI) script), some (sh eI width4), some (ow (eL (eT eR)) s6), none, none, none, none, none, none, none, none, none, none] : KEnv)) (ρb := fun cell7 (s6 : ((List (List (List Int))))) => ([some (sh (eL eI) script), some (sh eI width4), some (ow (eL (eT eR)) s6), some (sh eI cell7), none, none, none, none, none, none, none, none, none] : KEnv)) (v_seqL (v_cutL (v_s (E := (eL eI)) (a := script) (i := 0) rfl) vo_n (vo_s (vN 120)))) (Sb.same (Sb.same (Sb.same (Sb.drop (Sb.drop (Sb.drop (Sb.drop (Sb.drop (Sb.drop (Sb.drop (Sb.drop (Sb.drop (Sb.drop Sb.nil))))))))))))) (fun cell7 s6 => (p_nm (i := 3))) (fun cell7 s6 => (j_do (d_set (al := []) (c_l_mix (vq_cp (v_s (E := eI) (a := cell7) (i := 3) rfl) (vq_1 (vN 270))))) (fun n8 => (j_do (d_set (al := []) (c_l_heap (vq_cp (v_lst (vl_cp (v_s (E := eI) (a := cell7) (i := 3) rfl) vl_nil)) (vq_1 (v_s (E := eI) (a := width4) (i := 1) rfl))))) (fun row9 => (j_do (d_putL (al := []) rfl (v_opp (o_modL _ (by decide)) (v_s (E := eI) (a := n8) (i := 4) rfl) (vN 3)) (v_op o_catT (v_opp (o_ixAL _ _) (v_o (E := (eL (eT eR))) (a := s6) (i := 2) rfl) (v_opp (o_modL _ (by decide)) (v_s (E := eI) (a := n8) (i := 4) rfl) (vN 3))) (v_s (E := (eT eR)) (a := row9) (i := 5) rfl))) (fun heaps10 => (j_do (j_ifP (P := PN fun (z15 : ((List (List (List Int))))) => ([some (sh (eL eI) script), some (sh eI width4), some (ow (eL (eT eR)) z15), some (sh eI cell7), some (sh eI n8), some (sh (eT eR) row9), none, none, none, none, none, none, none] : KEnv)) (al := []) (b_test (v_opp ((o_eq (EqE.int _)) _ _) (v_opp (o_modL _ (by decide)) (v_opp (o_divL _ (by decide) (by decide)) (v_s (E := eI) (a := n8) (i := 4) rfl) (vN 3)) (vN 2)) (vN 0))) (j_do (d_putL (al := []) rfl (v_opp (o_modL _ (by decide)) (v_opp (o_divL _ (by decide) (by decide)) (v_s (E := eI) (a := n8) (i := 4) rfl) (vN 6)) (vN 3)) (v_op o_catT (v_opp (o_ixAL _ _) (v_o (E := (eL (eT eR))) (a := heaps10) (i := 2) rfl) (v_opp (o_modL _ (by decide)) (v_opp (o_divL _ (by decide) (by decide)) (v_s (E := eI) (a := n8) (i := 4) rfl) (vN 6)) (vN 3))) (v_s (E := (eT eR)) (a := row9) (i := 5) rfl))) (fun heaps16 => (j_end (Sb.same (Sb.same (Sb.same (Sb.same (Sb.same (Sb.same (Sb.drop (Sb.drop (Sb.drop (Sb.drop (Sb.drop (Sb.drop (Sb.drop Sb.nil)))))))))))))))) (j_end (Sb.same (Sb.same (Sb.same (Sb.same (Sb.same (Sb.same (Sb.drop (Sb.drop (Sb.drop (Sb.drop (Sb.drop (Sb.drop (Sb.drop Sb.nil))))))))))))))) (fun z15 => (j_endB (Sb.same (Sb.same (Sb.same (Sb.drop (Sb.drop (Sb.drop (Sb.drop (Sb.drop (Sb.drop (Sb.drop (Sb.drop (Sb.drop (Sb.drop Sb.nil)))))))))))))))))))))))) (fun s6 => (j_do (d_setF (al := [2]) (v_compP (ρb := fun heap_here21 => ([some (sh (eL eI) script), some (sh eI width4), some (ow (eL (eT eR)) s6), none, none, none, some (sh (eT eR) heap_here21), none, none, none, none, none, none] : KEnv)) (v_seqL (v_o (E := (eL (eT eR))) (a := s6) (i := 2) rfl)) (fun heap_here21 => (p_nm (i := 6))) (fun heap_here21 => (v_1i o_tupPL (v_1p (o_sortTK _) (v_s (E := (eT eR)) (a := heap_here21) (i := 6) rfl)))))) (fun heaps23 => (j_xT (d_forX (E' := eB) (al := []) (ρs := fun (s24 : Unit) => ([some (sh (eL eI) script), some (sh eI width4), some (ow (eL (ePT eR)) heaps23), none, none, none, none, none, none, none, none, none, none] : KEnv)) (ρb := fun j25 (s24 : Unit) => ([some (sh (eL eI) script), some (sh eI width4), some (ow (eL (ePT eR)) heaps23), none, none, none, none, some (sh eI j25), none, none, none, none, none] : KEnv)) (v_rng1p (vN 3)) (Sb.same (Sb.same (Sb.same (Sb.drop (Sb.drop (Sb.drop (Sb.drop (Sb.drop (Sb.drop (Sb.drop (Sb.drop (Sb.drop (Sb.drop Sb.nil))))))))))))) (fun j25 s24 => (p_nm (i := 7))) (fun j25 s24 => (j_do (d_set (al := []) (v_opp (o_ixAL _ _) (v_o (E := (eL (ePT eR))) (a := heaps23) (i := 2) rfl) (v_s (E := eI) (a := j25) (i := 7) rfl))) (fun one26 => (j_do (d_set (al := []) (v_opp (o_ixAL _ _) (v_o (E := (eL (ePT eR))) (a := heaps23) (i := 2) rfl) (v_opp (o_modL _ (by decide)) (v_opp (o_add _ _) (v_s (E := eI) (a := j25) (i := 7) rfl) (vN 1)) (vN 3)))) (fun other27 => (j_do (d_set (al := []) (c_heaps_apart (vq_cp (v_s (E := (ePT eR)) (a := one26) (i := 8) rfl) (vq_1 (v_s (E := (ePT eR)) (a := other27) (i := 9) rfl))))) (fun far28 => (j_ifs (al := []) (b_or (b_not (b_truB (c_l_whole (vq_1 (v_s (E := eI) (a := far28) (i := 10) rfl))))) (b_or (b_test (v_op (o_ne (EqE.int _)) (v_s (E := eI) (a := far28) (i := 10) rfl) (c_l_due (vq_cp (v_s (E := (ePT eR)) (a := one26) (i := 8) rfl) (vq_1 (v_s (E := (ePT eR)) (a := other27) (i := 9) rfl)))))) (b_test (v_op (o_ne (EqE.int _)) (c_heaps_apart (vq_cp (v_s (E := (ePT eR)) (a := other27) (i := 9) rfl) (vq_1 (v_s (E := (ePT eR)) (a := one26) (i := 8) rfl)))) (v_s (E := eI) (a := far28) (i := 10) rfl))))) (j_assoc (j_retL (v_c (E := eB) (a := false) rfl))) (j_skip (j_ifs (al := []) (b_orM (b_test (v_opp ((o_ne (EqE.bl _)) _ _) (v_opp ((o_eq (EqE.int _)) _ _) (v_s (E := eI) (a := far28) (i := 10) rfl) (vN 0)) (v_opp ((o_eq (EqE.pt (EqE.row _))) _ _) (v_s (E := (ePT eR)) (a := one26) (i := 8) rfl) (v_s (E := (ePT eR)) (a := other27) (i := 9) rfl)))) (b_test (v_op (o_ne (EqE.int _)) (c_heaps_apart (vq_cp (v_s (E := (ePT eR)) (a := one26) (i := 8) rfl) (vq_1 (v_s (E := (ePT eR)) (a := one26) (i := 8) rfl)))) (vN 0)))) (j_assoc (j_retL (v_c (E := eB) (a := false) rfl))) (j_skip (j_do (d_set (al := []) (v_opp (o_ixAL _ _) (v_o (E := (eL (ePT eR))) (a := heaps23) (i := 2) rfl) (v_opp (o_modL _ (by decide)) (v_opp (o_add _ _) (v_s (E := eI) (a := j25) (i := 7) rfl) (vN 2)) (vN 3)))) (fun third35 => (j_ifs (al := []) (b_test (v_op o_gt (v_s (E := eI) (a := far28) (i := 10) rfl) (v_op o_add (c_heaps_apart (vq_cp (v_s (E := (ePT eR)) (a := one26) (i := 8) rfl) (vq_1 (v_s (E := (ePT eR)) (a := third35) (i := 11) rfl)))) (c_heaps_apart (vq_cp (v_s (E := (ePT eR)) (a := third35) (i := 11) rfl) (vq_1 (v_s (E := (ePT eR)) (a := other27) (i := 9) rfl))))))) (j_assoc (j_retL (v_c (E := eB) (a := false) rfl))) (j_skip (j_do (d_set (al := []) (v_1i o_tupPL (v_1 o_sortXK (v_op o_catM (v_s (E := (ePT eR)) (a := one26) (i := 8) rfl) (c_l_heap (vq_cp (v_lst (vl_cp (v_opp (o_add _ _) (v_1p (o_sum _) (v_s (E := (eL eI)) (a := script) (i := 0) rfl)) (v_s (E := eI) (a := j25) (i := 7) rfl)) vl_nil)) (vq_1 (v_s (E := eI) (a := width4) (i := 1) rfl)))))))) (fun more44 => (j_ifs (al := []) (b_or (b_test (v_op (o_ne (EqE.int _)) (c_heaps_apart (vq_cp (v_s (E := (ePT eR)) (a := one26) (i := 8) rfl) (vq_1 (v_s (E := (ePT eR)) (a := more44) (i := 12) rfl)))) (vN 1))) (b_test (v_op (o_ne (EqE.int _)) (v_1 o_abs (v_op o_sub (c_heaps_apart (vq_cp (v_s (E := (ePT eR)) (a := more44) (i := 12) rfl) (vq_1 (v_s (E := (ePT eR)) (a := other27) (i := 9) rfl)))) (v_s (E := eI) (a := far28) (i := 10) rfl))) (vN 1)))) (j_assoc (j_retL (v_c (E := eB) (a := false) rfl))) (j_skip (j_endL (Sb.same (Sb.same (Sb.same (Sb.drop (Sb.drop (Sb.drop (Sb.drop (Sb.drop (Sb.drop (Sb.drop (Sb.drop (Sb.drop (Sb.drop Sb.nil)))))))))))))))))))))))))))))))))) (fun s24 => (j_retT (v_c (E := eB) (a := true) rfl))))))))))))
theorem c_law {ρ : KEnv} {fs : DL.Env → Res (List D)} {x0 : (List Int)} (h : EvR ρ fs (.ok x0) (q1 (eL eI))) : EvR ρ (eCall F_law fs) (t_law x0) eB := v_callp (t := fun a : (List Int) => t_law a) (a := x0) r_law h
theorem m_law {ρ : KEnv} {fs : DL.Env → Res (List D)} {r : Res ((List Int))} (h : EvR ρ fs r (q1 (eL eI))) : EvR ρ (eCall F_law fs) (r.bind fun a => t_law a) eB := v_call (t := fun a : (List Int) => t_law a) r_law h
/-! ### the drawn numbers -/
theorem sq_le {k n : Int} (h : 0 ≤ k) (h1 : k ≤ n) : 0 ≤ k * k ∧ k * k ≤ n * n := ⟨Int.mul_nonneg h h, Int.mul_le_mul h1 h1 h (by omega)⟩
theorem mix_ok {cell k : Int} (hc : Sm 1048700 cell) (h0 : 0 ≤ k) (h1 : k ≤ 1000000) : Ok (t_l_mix cell k) fun u => 0 ≤ u ∧ u < 2147483629 := by
  unfold t_l_mix
  have q := sq_le (show 0 ≤ k + 1 by omega) (show k + 1 ≤ 1000001 by omega)
  rw [mulR_l hc (by decide) (by decide) (by decide), mulR_s (by omega) (by omega) (by omega) (by omega)]
  simp only [Res.bind_ok]
  rw [mulR_s (by omega) (by omega) (by omega) (by omega)]
  simp only [Res.bind_ok]
  have r0 := Int.emod_nonneg (cell * 48271 + (k + 1) * (k + 1) * 69621) (b := 2147483647) (by decide)
  have r1 := Int.emod_lt_of_pos (cell * 48271 + (k + 1) * (k + 1) * 69621) (b := 2147483647) (by decide)
  generalize (cell * 48271 + (k + 1) * (k + 1) * 69621) % 2147483647 = u at *
  rw [mulR_s (by omega) (by omega) (by omega) (by omega)]
  exact ⟨_, rfl, Int.emod_nonneg _ (by decide), Int.emod_lt_of_pos _ (by decide)⟩
/-- a number within the bounds -/
def InB (v : Int) : Prop := -1000000000000000000 ≤ v ∧ v ≤ 1000000000000000000
theorem number_ok {cell k many : Int} (hc : Sm 1048700 cell) (h0 : 0 ≤ k) (h1 : k ≤ 1000000) (m0 : 0 < many) (m1 : many ≤ 1000) : Ok (t_l_number cell k many) InB := by
  unfold t_l_number
  refine (mix_ok hc h0 h1).bind fun n hn => Ok.ite (fun _ => ?_) fun _ => ?_
  · rw [mulR_s (by decide) (by decide) (by decide) (by decide)]
    simp only [Res.bind_ok]
    rw [modR_pos (by decide)]
    refine ⟨_, rfl, ?_⟩
    unfold InB
    omega
  · rw [modR_pos m0]
    refine ⟨_, rfl, ?_⟩
    have a := Int.emod_nonneg (n / 5) (show many ≠ 0 by omega)
    have b := Int.emod_lt_of_pos (n / 5) m0
    unfold InB
    omega
theorem cell_at_eq (s : List Int) (k : Int) (h : 0 ≤ k) : t_l_cell_at s k = .ok (s.getD k.toNat 0) := by
  unfold t_l_cell_at
  obtain ⟨k, rfl⟩ := Int.eq_ofNat_of_zero_le h
  split
  · rename_i hk
    have hk : k < s.length := by omega
    rw [getL_nat (a := s[k]) (List.getElem?_eq_getElem hk)]
    simp [hk]
  · rename_i hk
    have hk : s.length ≤ k := by omega
    simp [hk]
theorem cell_sm {s : List Int} {n : Nat} (h : ∀ z ∈ s, Sm n z) (k : Nat) : Sm n (s.getD k 0) := by
  by_cases hk : k < s.length
  · rw [List.getD_eq_getElem?_getD, List.getElem?_eq_getElem hk]; exact h _ (List.getElem_mem _)
  · rw [List.getD_eq_getElem?_getD, List.getElem?_eq_none (by omega)]
    show (0 : Int).natAbs < _
    exact Nat.two_pow_pos _
/-! ### views: each row once; so many at most -/
theorem snoc_ind {α : Type} {P : List α → Prop} (h0 : P []) (h : ∀ l a, P l → P (l ++ [a])) : ∀ l, P l := fun l => by
  have : ∀ n (l : List α), l.length = n → P l := by
    intro n
    induction n with
    | zero => intro l hl; rw [List.eq_nil_of_length_eq_zero hl]; exact h0
    | succ n ih =>
      intro l hl
      rcases List.eq_nil_or_concat l with rfl | ⟨l', a, rfl⟩
      · exact h0
      · rw [List.concat_eq_append] at hl ⊢
        exact h l' a (ih l' (by simpa using hl))
  exact this _ l rfl
theorem forR_cons {α S : Type} (a : α) (l : List α) (s : S) (f : α → S → Res S) : DL.forR (a :: l) s f = (f a s).bind fun s' => DL.forR l s' f := rfl
/-! ### sums by key -/
section
variable {V : Type} {add : V → V → V} {z : V}
def totV (add : V → V → V) (z : V) (ps : List (List Int × V)) (k : List Int) : V := ps.foldl (fun t p => if p.1 = k then add t p.2 else t) z
theorem totV_snoc (ps : List (List Int × V)) (p : List Int × V) (k : List Int) : totV add z (ps ++ [p]) k = if p.1 = k then add (totV add z ps k) p.2 else totV add z ps k := by
  unfold totV
  rw [List.foldl_append]
  rfl
theorem totV_none {ps : List (List Int × V)} {k : List Int} (h : k ∉ ps.map (·.1)) : totV add z ps k = z := by
  unfold totV
  have gen : ∀ (ps : List (List Int × V)) (t : V), k ∉ ps.map (·.1) → ps.foldl (fun t p => if p.1 = k then add t p.2 else t) t = t := by
    intro ps
    induction ps with
    | nil => intro t _; rfl
    | cons p ps ih =>
      intro t h
      rw [List.map_cons, List.mem_cons] at h
      rw [List.foldl_cons, if_neg (fun e => h (.inl e.symm))]
      exact ih t fun e => h (.inr e)
  exact gen ps z h
structure SumV (add : V → V → V) (z : V) (m ps : List (List Int × V)) : Prop where
  nd : (m.map (·.1)).Nodup
  ks : ∀ k, k ∈ m.map (·.1) ↔ k ∈ ps.map (·.1)
  gt : ∀ k, k ∈ ps.map (·.1) → getG m k = some (totV add z ps k)
  ln : m.length ≤ ps.length
theorem SumV.nil : SumV add z [] [] := ⟨List.nodup_nil, fun k => Iff.rfl, fun k h => absurd h List.not_mem_nil, Nat.le_refl _⟩
theorem SumV.at {m ps : List (List Int × V)} (S : SumV add z m ps) (k : List Int) : (getG m k).getD z = totV add z ps k := by
  by_cases h : k ∈ ps.map (·.1)
  · rw [S.gt _ h]; rfl
  · rw [get_noneG (fun e => h ((S.ks _).mp e)), totV_none h]; rfl
theorem SumV.step {m ps : List (List Int × V)} (S : SumV add z m ps) (p : List Int × V) : SumV add z (putG m p.1 (add (totV add z ps p.1) p.2)) (ps ++ [p]) := by
  have hk := put_keysG m p.1 (add (totV add z ps p.1) p.2)
  refine ⟨?_, fun k => ?_, fun k h => ?_, ?_⟩
  · rw [hk]
    split
    · exact S.nd
    · rename_i h
      rw [List.nodup_append]
      refine ⟨S.nd, by simp, ?_⟩
      intro a ha b hb
      rw [List.mem_singleton] at hb
      subst hb
      intro e
      subst e
      exact h ha
  · rw [hk, List.map_append, List.mem_append, ← S.ks k]
    split
    · rename_i h
      constructor
      · exact .inl
      · rintro (q | q)
        · exact q
        · rw [show k = p.1 by simpa using q]; exact h
    · rw [List.mem_append]; rfl
  · rw [totV_snoc]
    by_cases e : p.1 = k
    · subst e
      rw [put_get_selfG, if_pos rfl]
    · rw [put_get_neG _ (Ne.symm e), if_neg e]
      rw [List.map_append, List.mem_append] at h
      rcases h with q | q
      · exact S.gt _ q
      · exact absurd (by simpa using q : k = p.1).symm e
  · have := congrArg List.length hk
    rw [List.length_map] at this
    rw [this, List.length_append]
    have l := S.ln
    split
    · rw [List.length_map]; simp; omega
    · rw [List.length_append, List.length_map]; simp; omega
/-- the sums, keys in order, those that keep says -/
def outV (add : V → V → V) (z : V) (keep : V → Bool) (K : List (List Int)) (ps : List (List Int × V)) : List (List Int × V) := ((sortK K).filter fun k => keep (totV add z ps k)).map fun k => (k, totV add z ps k)
theorem keys_sort {K K' : List (List Int)} (h : K.Nodup) (h' : K'.Nodup) (e : ∀ k, k ∈ K ↔ k ∈ K') : sortK K = sortK K' := sortK_ext ((List.perm_ext_iff_of_nodup h h').mpr e)
/-- the dict's walk in order -/
theorem SumV.out {m ps : List (List Int × V)} (S : SumV add z m ps) (hl : ps.length ≤ 1000000) {keep : V → Bool} {c : List Int → Res Bool} {f : List Int → Res (List Int × V)} (hc : ∀ k v, getG m k = some v → c k = .ok (keep v)) (hf : ∀ k v, getG m k = some v → f k = .ok (k, v)) :
    (sortKR (m.map (·.1))).bind (fun l => DL.compF l c f) = .ok (outV add z keep (m.map (·.1)) ps) := by
  have l := S.ln
  rw [sortKR_ok (by rw [List.length_map]; omega), Res.bind_ok]
  have mem : ∀ k ∈ sortK (m.map (·.1)), getG m k = some (totV add z ps k) := fun k hk => S.gt k ((S.ks k).mp (sortK_mem.mp hk))
  exact compF_fn (by rw [sortK_len, List.length_map]; omega) (fun k hk => hc k _ (mem k hk)) (fun k hk _ => hf k _ (mem k hk))
end
/-! ### how often each row stands there -/
def ones (L : List (List Int)) : List (List Int × Int) := L.map fun r => (r, 1)
theorem ones_keys (L : List (List Int)) : (ones L).map (·.1) = L := by unfold ones; rw [List.map_map]; exact List.map_id _
theorem tot_count (L : List (List Int)) (k : List Int) : totV (· + ·) 0 (ones L) k = (L.count k : Nat) := by
  unfold totV ones
  have gen : ∀ (L : List (List Int)) (t : Int), (L.map fun r => (r, (1 : Int))).foldl (fun t p => if p.1 = k then t + p.2 else t) t = t + (L.count k : Nat) := by
    intro L
    induction L with
    | nil => intro t; simp
    | cons r L ih =>
      intro t
      rw [List.map_cons, List.foldl_cons, ih, List.count_cons]
      by_cases h : r = k
      · subst h; simp; omega
      · simp [h]
  have := gen L 0
  rwa [Int.zero_add] at this
theorem get_mem : ∀ {m : List (List Int × Int)}, (m.map (·.1)).Nodup → ∀ p ∈ m, getG m p.1 = some p.2
  | q :: m, nd, p, h => by
    rw [List.map_cons, List.nodup_cons] at nd
    unfold getG
    rw [List.find?_cons]
    rcases List.mem_cons.mp h with e | h'
    · subst e; simp
    · have ne : ¬ q.1 = p.1 := fun z => nd.1 (z ▸ List.mem_map.mpr ⟨p, h', rfl⟩)
      rw [decide_eq_false ne]
      exact get_mem nd.2 p h'
theorem times_loop : ∀ (r d : List (List Int)) (m : List (List Int × Int)), SumV (· + ·) 0 m (ones d) → d.length + r.length ≤ 1000000 →
    Ok (DL.forR r m (fun row s2 => (putDR s2 row (((getG s2 row).getD (0 : Int)) + (1 : Int))).bind fun t => Res.ok t)) fun m' => SumV (· + ·) 0 m' (ones (d ++ r))
  | [], d, m, S, _ => by rw [List.append_nil]; exact ⟨m, rfl, S⟩
  | p :: r, d, m, S, h => by
    rw [forR_cons]
    have l := S.ln
    unfold ones at l
    rw [List.length_map] at l
    rw [List.length_cons] at h
    have e : putDR m p (((getG m p).getD (0 : Int)) + 1) = .ok (putG m p (totV (· + ·) 0 (ones d) p + 1)) := by
      rw [S.at p]
      exact if_pos (by rw [PySem.sizeLine_eq]; omega)
    rw [e, Res.bind_ok, Res.bind_ok]
    have S' := S.step (p, 1)
    rw [show ones d ++ [(p, 1)] = ones (d ++ [p]) by unfold ones; rw [List.map_append]; rfl] at S'
    have := times_loop r (d ++ [p]) _ S' (by rw [List.length_append, List.length_singleton]; omega)
    rwa [List.append_assoc, List.singleton_append] at this
/-! ### how far apart two heaps are, the one within the other -/
def negs (L : List (List Int)) : List (List Int × Int) := L.map fun r => (r, -1)
theorem negs_keys (L : List (List Int)) : (negs L).map (·.1) = L := by unfold negs; rw [List.map_map]; exact List.map_id _
theorem minus_loop (base : List (List Int × Int)) : ∀ (r d : List (List Int)) (m : List (List Int × Int)), SumV (· + ·) 0 m (base ++ negs d) → base.length + d.length + r.length ≤ 1000000 →
    Ok (DL.forR r m (fun row s2 => (putDR s2 row (((getG s2 row).getD (0 : Int)) - (1 : Int))).bind fun t => Res.ok t)) fun m' => SumV (· + ·) 0 m' (base ++ negs (d ++ r))
  | [], d, m, S, _ => by rw [List.append_nil]; exact ⟨m, rfl, S⟩
  | p :: r, d, m, S, h => by
    rw [forR_cons]
    have l := S.ln
    rw [List.length_append] at l
    unfold negs at l
    rw [List.length_map] at l
    rw [List.length_cons] at h
    have e : putDR m p (((getG m p).getD (0 : Int)) - 1) = .ok (putG m p (totV (· + ·) 0 (base ++ negs d) p + -1)) := by
      rw [S.at p]
      exact if_pos (by rw [PySem.sizeLine_eq]; omega)
    rw [e, Res.bind_ok, Res.bind_ok]
    have S' := S.step (p, -1)
    rw [show base ++ negs d ++ [(p, -1)] = base ++ negs (d ++ [p]) by unfold negs; rw [List.map_append, List.append_assoc]; rfl] at S'
    have := minus_loop base r (d ++ [p]) _ S' (by rw [List.length_append, List.length_singleton]; omega)
    rwa [List.append_assoc, List.singleton_append] at this
theorem totV_app (a b : List (List Int × Int)) (k : List Int) : totV (· + ·) 0 (a ++ b) k = totV (· + ·) 0 a k + totV (· + ·) 0 b k := by
  unfold totV
  rw [List.foldl_append]
  have gen : ∀ (b : List (List Int × Int)) (t : Int), b.foldl (fun t p => if p.1 = k then t + p.2 else t) t = t + b.foldl (fun t p => if p.1 = k then t + p.2 else t) 0 := by
    intro b
    induction b with
    | nil => intro t; simp
    | cons p b ih =>
      intro t
      rw [List.foldl_cons, List.foldl_cons, ih, ih (if p.1 = k then 0 + p.2 else 0)]
      split <;> omega
  exact gen b _
theorem tot_neg (L : List (List Int)) (k : List Int) : totV (· + ·) 0 (negs L) k = -((L.count k : Nat) : Int) := by
  unfold totV negs
  have gen : ∀ (L : List (List Int)) (t : Int), (L.map fun r => (r, (-1 : Int))).foldl (fun t p => if p.1 = k then t + p.2 else t) t = t - (L.count k : Nat) := by
    intro L
    induction L with
    | nil => intro t; simp
    | cons r L ih =>
      intro t
      rw [List.map_cons, List.foldl_cons, ih, List.count_cons]
      by_cases h : r = k
      · subst h; simp; omega
      · simp [h]
  have := gen L 0
  rwa [Int.zero_sub] at this
theorem sum_add2 {α : Type} (f g : α → Int) : ∀ K : List α, (K.map fun k => f k + g k).sum = (K.map f).sum + (K.map g).sum
  | [] => rfl
  | k :: K => by rw [List.map_cons, List.map_cons, List.map_cons, List.sum_cons, List.sum_cons, List.sum_cons, sum_add2 f g K]; omega
theorem sum_one (r : List Int) : ∀ K : List (List Int), (K.map fun k => if r = k then (1 : Int) else 0).sum = (K.count r : Nat)
  | [] => rfl
  | k :: K => by
    rw [List.map_cons, List.sum_cons, sum_one r K, List.count_cons]
    by_cases h : r = k
    · subst h; simp; omega
    · have h' : ¬ k = r := fun z => h z.symm
      simp [h, h']
theorem sum_counts {K : List (List Int)} (nd : K.Nodup) : ∀ {L : List (List Int)}, (∀ x ∈ L, x ∈ K) → (K.map fun k => ((L.count k : Nat) : Int)).sum = (L.length : Nat)
  | [], _ => by
    have : ∀ K : List (List Int), (K.map fun k => ((([] : List (List Int)).count k : Nat) : Int)).sum = 0 := by
      intro K
      induction K with
      | nil => rfl
      | cons k K ih => rw [List.map_cons, List.sum_cons, ih]; rfl
    exact this K
  | r :: L, h => by
    have ih := sum_counts nd (L := L) fun x hx => h x (List.mem_cons_of_mem _ hx)
    have e : (fun k => (((r :: L).count k : Nat) : Int)) = fun k => ((L.count k : Nat) : Int) + if r = k then (1 : Int) else 0 := by
      funext k
      rw [List.count_cons]
      by_cases q : r = k
      · subst q; simp
      · simp [q]
    rw [e, sum_add2, ih, sum_one, nd.count, if_pos (h r List.mem_cons_self), List.length_cons]
    omega
/-! ### how far apart any two heaps are -/
def dk (T U : List (List Int)) (k : List Int) : Nat := T.count k - U.count k + (U.count k - T.count k)
theorem sumN_add {α : Type} (f g : α → Nat) : ∀ K : List α, (K.map fun k => f k + g k).sum = (K.map f).sum + (K.map g).sum
  | [] => rfl
  | k :: K => by rw [List.map_cons, List.map_cons, List.map_cons, List.sum_cons, List.sum_cons, List.sum_cons, sumN_add f g K]; omega
theorem sumN_le {α : Type} {f g : α → Nat} : ∀ {K : List α}, (∀ k ∈ K, f k ≤ g k) → (K.map f).sum ≤ (K.map g).sum
  | [], _ => Nat.le_refl _
  | k :: K, h => by
    rw [List.map_cons, List.map_cons, List.sum_cons, List.sum_cons]
    exact Nat.add_le_add (h k List.mem_cons_self) (sumN_le fun x hx => h x (List.mem_cons_of_mem _ hx))
theorem sumN_eq {α : Type} {f g : α → Nat} {K : List α} (h : ∀ k ∈ K, f k = g k) : (K.map f).sum = (K.map g).sum := by rw [List.map_congr_left h]
theorem sumN_perm {l m : List Nat} (p : l.Perm m) : l.sum = m.sum := by
  induction p with
  | nil => rfl
  | cons a p ih => rw [List.sum_cons, List.sum_cons, ih]
  | swap a b l => rw [List.sum_cons, List.sum_cons, List.sum_cons, List.sum_cons]; omega
  | trans p q ih ik => exact ih.trans ik
theorem sumN_zero {α : Type} : ∀ K : List α, (K.map fun _ => 0).sum = 0
  | [] => rfl
  | k :: K => by rw [List.map_cons, List.sum_cons, sumN_zero K]
theorem sumN_one (r : List Int) : ∀ {K : List (List Int)}, K.Nodup → (K.map fun k => if k = r then 1 else 0).sum = if r ∈ K then 1 else 0
  | [], _ => rfl
  | k :: K, nd => by
    obtain ⟨n1, n2⟩ := List.nodup_cons.mp nd
    rw [List.map_cons, List.sum_cons, sumN_one r n2]
    by_cases h : k = r
    · subst h
      simp [n1]
    · have h' : ¬ r = k := fun z => h z.symm
      simp [h, h']
theorem sumN_cnt {K : List (List Int)} (nd : K.Nodup) : ∀ {L : List (List Int)}, (∀ x ∈ L, x ∈ K) → (K.map fun k => L.count k).sum = L.length
  | [], _ => by
    rw [sumN_eq (g := fun _ => 0) (fun k _ => List.count_nil), sumN_zero]
    rfl
  | r :: L, h => by
    have ih := sumN_cnt nd (L := L) fun x hx => h x (List.mem_cons_of_mem _ hx)
    rw [sumN_eq (g := fun k => L.count k + if k = r then 1 else 0) (fun k _ => by
      rw [List.count_cons]
      by_cases q : r = k
      · subst q; simp
      · have q' : ¬ k = r := fun z => q z.symm
        simp [q, q']), sumN_add, ih, sumN_one r nd, if_pos (h r List.mem_cons_self), List.length_cons]
theorem sumN_filter {α : Type} {f : α → Nat} (p : α → Bool) : ∀ {K : List α}, (∀ k ∈ K, p k = false → f k = 0) → ((K.filter p).map f).sum = (K.map f).sum
  | [], _ => rfl
  | k :: K, h => by
    have ih := sumN_filter p (K := K) fun x hx => h x (List.mem_cons_of_mem _ hx)
    by_cases q : p k = true
    · rw [List.filter_cons, if_pos q, List.map_cons, List.map_cons, List.sum_cons, List.sum_cons, ih]
    · rw [List.filter_cons, if_neg q, List.map_cons, List.sum_cons, ih, h k List.mem_cons_self (by simpa using q), Nat.zero_add]
noncomputable def ap (T U : List (List Int)) : Nat := ((nubL (T ++ U)).map (dk T U)).sum
theorem dk_zero {T U : List (List Int)} {k : List Int} (h : k ∉ T ++ U) : dk T U k = 0 := by
  unfold dk
  rw [List.mem_append] at h
  rw [List.count_eq_zero_of_not_mem fun z => h (.inl z), List.count_eq_zero_of_not_mem fun z => h (.inr z)]
theorem ap_of {T U K : List (List Int)} (nd : K.Nodup) (hT : ∀ x ∈ T, x ∈ K) (hU : ∀ x ∈ U, x ∈ K) : (K.map (dk T U)).sum = ap T U := by
  rw [← sumN_filter (fun k => decide (k ∈ T ++ U)) fun k _ h => dk_zero (by simpa using h)]
  refine sumN_perm (List.Perm.map _ ?_)
  refine (List.perm_ext_iff_of_nodup (nd.filter _) (nubL_nodup _)).mpr fun k => ?_
  rw [List.mem_filter, nubL_mem, decide_eq_true_eq]
  refine ⟨fun h => h.2, fun h => ⟨?_, h⟩⟩
  rcases List.mem_append.mp h with h | h
  · exact hT k h
  · exact hU k h
theorem ap_perm {T U T' U' : List (List Int)} (p : T.Perm T') (q : U.Perm U') : ap T U = ap T' U' := by
  rw [← ap_of (T := T') (U := U') (nubL_nodup (T ++ U)) (fun x hx => nubL_mem.mpr (List.mem_append_left _ (p.mem_iff.mpr hx))) (fun x hx => nubL_mem.mpr (List.mem_append_right _ (q.mem_iff.mpr hx)))]
  exact sumN_eq fun k _ => by unfold dk; rw [p.count_eq, q.count_eq]
theorem ap_symm (T U : List (List Int)) : ap T U = ap U T := by
  rw [← ap_of (T := U) (U := T) (nubL_nodup (T ++ U)) (fun x hx => nubL_mem.mpr (List.mem_append_right _ hx)) (fun x hx => nubL_mem.mpr (List.mem_append_left _ hx))]
  exact sumN_eq fun k _ => by unfold dk; omega
theorem ap_tri (T U V : List (List Int)) : ap T V ≤ ap T U + ap U V := by
  have mT : ∀ x ∈ T, x ∈ nubL (T ++ U ++ V) := fun x hx => nubL_mem.mpr (List.mem_append_left _ (List.mem_append_left _ hx))
  have mU : ∀ x ∈ U, x ∈ nubL (T ++ U ++ V) := fun x hx => nubL_mem.mpr (List.mem_append_left _ (List.mem_append_right _ hx))
  have mV : ∀ x ∈ V, x ∈ nubL (T ++ U ++ V) := fun x hx => nubL_mem.mpr (List.mem_append_right _ hx)
  have nd := nubL_nodup (T ++ U ++ V)
  rw [← ap_of nd mT mV, ← ap_of nd mT mU, ← ap_of nd mU mV, ← sumN_add]
  exact sumN_le fun k _ => by unfold dk; omega
theorem ap_self (T : List (List Int)) : ap T T = 0 := by
  unfold ap
  rw [sumN_eq (g := fun _ => 0) (fun k _ => by unfold dk; omega), sumN_zero]
theorem ap_both (A B C D' : List (List Int)) : ap (A ++ B) (C ++ D') ≤ ap A C + ap B D' := by
  have nd := nubL_nodup (A ++ B ++ (C ++ D'))
  have m : ∀ x, (x ∈ A ∨ x ∈ B) ∨ (x ∈ C ∨ x ∈ D') → x ∈ nubL (A ++ B ++ (C ++ D')) := fun x hx => nubL_mem.mpr (by simpa only [List.mem_append] using hx)
  rw [← ap_of nd (fun x hx => m x (.inl (List.mem_append.mp hx))) (fun x hx => m x (.inr (List.mem_append.mp hx))), ← ap_of (T := A) (U := C) nd (fun x hx => m x (.inl (.inl hx))) (fun x hx => m x (.inr (.inl hx))), ← ap_of (T := B) (U := D') nd (fun x hx => m x (.inl (.inr hx))) (fun x hx => m x (.inr (.inr hx))), ← sumN_add]
  exact sumN_le fun k _ => by unfold dk; rw [List.count_append, List.count_append]; omega
theorem ap_nil (A : List (List Int)) : ap A [] = A.length := by
  rw [← ap_of (nubL_nodup A) (fun x hx => nubL_mem.mpr hx) (fun x hx => by cases hx), ← sumN_cnt (nubL_nodup A) (L := A) (fun x hx => nubL_mem.mpr hx)]
  exact sumN_eq fun k _ => by unfold dk; rw [List.count_nil]; omega
theorem ap_app (X A : List (List Int)) : ap (X ++ A) X ≤ A.length := by
  have := ap_both X A X []
  rw [List.append_nil, ap_self, ap_nil] at this
  omega
theorem ap_cons (r : List Int) (T U : List (List Int)) : ap (r :: T) (r :: U) = ap T U := by
  rw [← ap_of (T := T) (U := U) (nubL_nodup (r :: T ++ r :: U)) (fun x hx => nubL_mem.mpr (List.mem_append_left _ (List.mem_cons_of_mem _ hx))) (fun x hx => nubL_mem.mpr (List.mem_append_right _ (List.mem_cons_of_mem _ hx)))]
  exact sumN_eq fun k _ => by unfold dk; rw [List.count_cons, List.count_cons]; omega
theorem ap_more {r : List Int} {T U : List (List Int)} (h : r ∉ U) : ap (r :: T) U = ap T U + 1 := by
  have nd := nubL_nodup (r :: T ++ U)
  have mT : ∀ x ∈ T, x ∈ nubL (r :: T ++ U) := fun x hx => nubL_mem.mpr (List.mem_append_left _ (List.mem_cons_of_mem _ hx))
  have mU : ∀ x ∈ U, x ∈ nubL (r :: T ++ U) := fun x hx => nubL_mem.mpr (List.mem_append_right _ hx)
  have mr : r ∈ nubL (r :: T ++ U) := nubL_mem.mpr (by simp)
  have one := sumN_one r nd
  rw [if_pos mr] at one
  rw [← ap_of (T := T) (U := U) nd mT mU, ← one, ← sumN_add]
  refine sumN_eq fun k _ => ?_
  unfold dk
  rw [List.count_cons]
  by_cases q : r = k
  · subst q
    rw [List.count_eq_zero_of_not_mem h]
    simp
  · have q' : ¬ k = r := fun z => q z.symm
    simp [q, q']
/-- what both have, and the rest of each -/
theorem ap_parts : ∀ T U : List (List Int), ∃ C A B : List (List Int), T.Perm (C ++ A) ∧ U.Perm (C ++ B) ∧ A.length + B.length = ap T U
  | [], U => ⟨[], [], U, List.Perm.refl _, List.Perm.refl _, by rw [ap_symm, ap_nil]; simp⟩
  | r :: T, U => by
    by_cases h : r ∈ U
    · obtain ⟨C, A, B, p, q, e⟩ := ap_parts T (U.erase r)
      have pu := List.perm_cons_erase h
      refine ⟨r :: C, A, B, p.cons r, pu.trans (q.cons r), ?_⟩
      rw [ap_perm (List.Perm.refl _) pu, ap_cons]
      exact e
    · obtain ⟨C, A, B, p, q, e⟩ := ap_parts T U
      refine ⟨C, r :: A, B, (p.cons r).trans List.perm_middle.symm, q, ?_⟩
      rw [ap_more h, List.length_cons]
      omega
/-- a change by one row more moves a heap by so much at most -/
theorem lip_of {f : List (List Int) → List (List Int)} {c : Nat} (hp : ∀ X Y, X.Perm Y → ap (f X) (f Y) = 0) (h1 : ∀ X r, ap (f (X ++ [r])) (f X) ≤ c) (T U : List (List Int)) : ap (f T) (f U) ≤ c * ap T U := by
  have more : ∀ C A : List (List Int), ap (f (C ++ A)) (f C) ≤ c * A.length := fun C A => by
    refine snoc_ind (P := fun A => ap (f (C ++ A)) (f C) ≤ c * A.length) ?_ (fun A r ih => ?_) A
    · rw [List.append_nil, ap_self]; exact Nat.zero_le _
    · have t := ap_tri (f (C ++ (A ++ [r]))) (f (C ++ A)) (f C)
      have := h1 (C ++ A) r
      rw [List.append_assoc] at this
      rw [List.length_append, List.length_singleton, Nat.mul_succ]
      omega
  obtain ⟨C, A, B, p, q, e⟩ := ap_parts T U
  have a1 := hp _ _ p
  have a2 := hp _ _ q
  have b1 := more C A
  have b2 := more C B
  have t1 := ap_tri (f T) (f (C ++ A)) (f U)
  have t2 := ap_tri (f (C ++ A)) (f C) (f U)
  have t3 := ap_tri (f C) (f (C ++ B)) (f U)
  have s1 := ap_symm (f C) (f (C ++ B))
  have s2 := ap_symm (f (C ++ B)) (f U)
  rw [← e, Nat.mul_add]
  omega
/-! the def -/
theorem apart_any {L M : List (List Int)} (hl : L.length + M.length ≤ 1000000) : t_heaps_apart L M = .ok ((ap L M : Nat) : Int) := by
  obtain ⟨m, e, S⟩ := times_loop L [] [] SumV.nil (by simp; omega)
  rw [List.nil_append] at S
  obtain ⟨m', e', S'⟩ := minus_loop (ones L) M [] m (by rw [show negs [] = [] from rfl, List.append_nil]; exact S) (by unfold ones; rw [List.length_map]; simp; omega)
  rw [List.nil_append] at S'
  have ln := S'.ln
  rw [List.length_append] at ln
  unfold ones negs at ln
  rw [List.length_map, List.length_map] at ln
  unfold t_heaps_apart
  rw [Res.bind_ok, e, Res.bind_ok, e', Res.bind_ok, compR_fn (g := fun (x : Int) => ((x.natAbs : Nat) : Int)) (by rw [List.length_map]; omega) fun _ _ => rfl, Res.bind_ok]
  congr 1
  rw [List.map_map]
  have inM : ∀ x ∈ M, x ∈ m'.map (·.1) := fun x hx => (S'.ks x).mpr (by rw [List.map_append, ones_keys, negs_keys]; exact List.mem_append_right _ hx)
  have inL : ∀ x ∈ L, x ∈ m'.map (·.1) := fun x hx => (S'.ks x).mpr (by rw [List.map_append, ones_keys, negs_keys]; exact List.mem_append_left _ hx)
  rw [← ap_of S'.nd inL inM, List.map_map]
  have each : m'.map ((fun x => ((x.natAbs : Nat) : Int)) ∘ fun p => p.2) = m'.map fun p => ((dk L M p.1 : Nat) : Int) := by
    refine List.map_congr_left fun p hp => ?_
    have g := get_mem S'.nd p hp
    have k1 : p.1 ∈ m'.map (·.1) := List.mem_map.mpr ⟨p, hp, rfl⟩
    rw [S'.gt p.1 ((S'.ks _).mp k1)] at g
    have g : totV (· + ·) 0 (ones L ++ negs M) p.1 = p.2 := Option.some.inj g
    rw [totV_app, tot_count, tot_neg] at g
    show ((p.2.natAbs : Nat) : Int) = _
    unfold dk
    omega
  rw [each]
  have cast : ∀ (f : List Int × Int → Nat) (K : List (List Int × Int)), (K.map fun k => ((f k : Nat) : Int)).sum = (((K.map f).sum : Nat) : Int) := by
    intro f K
    induction K with
    | nil => rfl
    | cons k K ih => rw [List.map_cons, List.map_cons, List.sum_cons, List.sum_cons, ih]; omega
  rw [cast]
  rfl
def RowOk (W : Nat) (r : List Int) : Prop := r.length = W ∧ ∀ x ∈ r, InB x
/-! ### a drawn heap, drawn names -/
theorem heap_ok {cells : List Int} {W : Nat} (hc : ∀ z ∈ cells, Sm 1048700 z) (hl : cells.length ≤ 1000) (h0 : 0 < W) (h4 : W ≤ 4) : Ok (t_l_heap cells W) fun T => T.length = cells.length ∧ sortK T = T ∧ ∀ r ∈ T, RowOk W r := by
  unfold t_l_heap
  obtain ⟨many, hm, e⟩ := getL_mem (l := ([7, 3, 3, 2] : List Int)) (i := (W : Int) - 1) (by simp; omega) (by simp; omega)
  have m0 : 0 < many ∧ many ≤ 7 := by simp at hm; omega
  rw [e, Res.bind_ok]
  refine Ok.bind (P := fun L => L.length = cells.length ∧ ∀ r ∈ L, RowOk W r) ?_ fun L hL => ?_
  · refine (Ok.forA (P := fun _ r => RowOk W r) (s := []) (by simp; omega) fun z hz s hs => ?_).imp ?_
    · rw [rng1_ok (by omega) (by omega)]
      simp only [Res.bind_ok, Res.assoc]
      refine Ok.bind (P := RowOk W) ?_ fun r hr => ?_
      · refine Ok.compR (P := fun _ x => InB x) (by rw [rangeI_len]; omega) (fun j hj => ?_) fun r hr => ?_
        · have := rangeI_mem.mp hj
          rw [mulR_s (by omega) (by omega) (by omega) (by omega)]
          exact number_ok (hc z hz) (by omega) (by omega) m0.1 (by omega)
        · refine ⟨by rw [hr.length, rangeI_len]; omega, fun x hx => ?_⟩
          obtain ⟨_, _, h⟩ := a2_mem hr x hx
          exact h
      · exact ⟨s ++ [r], by rw [appR_ok hs]; rfl, r, hr, rfl⟩
    · rintro _ ⟨bs, hb, rfl⟩
      refine ⟨by simp [hb.length], fun r hr => ?_⟩
      obtain ⟨_, _, h⟩ := a2_mem hb r (by simpa using hr)
      exact h
  · rw [sortKR_ok (by omega)]
    exact ⟨_, rfl, by rw [sortK_len]; exact hL.1, sortK_two _, fun r hr => hL.2 r (sortK_mem.mp hr)⟩
/-! ### k20 -/
theorem ap_step (r : List Int) (T U : List (List Int)) : ap (r :: T) U = ap T U + 1 ∨ ap (r :: T) U + 1 = ap T U := by
  have nd := nubL_nodup (r :: T ++ U)
  have mT : ∀ x ∈ T, x ∈ nubL (r :: T ++ U) := fun x hx => nubL_mem.mpr (List.mem_append_left _ (List.mem_cons_of_mem _ hx))
  have mT' : ∀ x ∈ r :: T, x ∈ nubL (r :: T ++ U) := fun x hx => nubL_mem.mpr (List.mem_append_left _ hx)
  have mU : ∀ x ∈ U, x ∈ nubL (r :: T ++ U) := fun x hx => nubL_mem.mpr (List.mem_append_right _ hx)
  have mr : r ∈ nubL (r :: T ++ U) := nubL_mem.mpr (by simp)
  have one := sumN_one r nd
  rw [if_pos mr] at one
  rw [← ap_of (T := T) (U := U) nd mT mU, ← ap_of (T := r :: T) (U := U) nd mT' mU]
  by_cases c : U.count r ≤ T.count r
  · left
    have e : ((nubL (r :: T ++ U)).map (dk (r :: T) U)).sum = ((nubL (r :: T ++ U)).map fun k => dk T U k + if k = r then 1 else 0).sum := by
      refine sumN_eq fun k _ => ?_
      unfold dk
      rw [List.count_cons]
      by_cases q : r = k
      · subst q
        simp
        omega
      · have q' : ¬ k = r := fun z => q z.symm
        simp [q, q']
    rw [e, sumN_add, one]
  · right
    have e : ((nubL (r :: T ++ U)).map (dk T U)).sum = ((nubL (r :: T ++ U)).map fun k => dk (r :: T) U k + if k = r then 1 else 0).sum := by
      refine sumN_eq fun k _ => ?_
      unfold dk
      rw [List.count_cons]
      by_cases q : r = k
      · subst q
        simp
        omega
      · have q' : ¬ k = r := fun z => q z.symm
        simp [q, q']
    rw [e, sumN_add, one]
theorem ap_zero {T U : List (List Int)} (hT : sortK T = T) (hU : sortK U = U) : ap T U = 0 ↔ T = U := by
  constructor
  · intro h
    obtain ⟨C, A, B, p, q, l⟩ := ap_parts T U
    have hA : A = [] := List.length_eq_zero_iff.mp (by omega)
    have hB : B = [] := List.length_eq_zero_iff.mp (by omega)
    rw [hA, List.append_nil] at p
    rw [hB, List.append_nil] at q
    rw [← hT, ← hU]
    exact sortK_ext (p.trans q.symm)
  · rintro rfl
    exact ap_self T
theorem due_ok {T U : List (List Int)} (hl : T.length + U.length ≤ 1000) (hn : (nubR (T ++ U)).length < 64) : t_l_due T U = .ok ((ap T U : Nat) : Int) := by
  have loop : ∀ (l : List (List Int)) (n : Nat), DL.forR l (n : Int) (fun row3 s2 =>
      (Res.ok (s2 + (((((T.count row3 : Nat) : Int) - ((U.count row3 : Nat) : Int)).natAbs : Nat) : Int))).bind fun far4 =>
      Res.ok far4) = .ok (((n + (l.map (dk T U)).sum : Nat)) : Int) := by
    intro l
    induction l with
    | nil => intro n; rfl
    | cons k l ih =>
      intro n
      rw [forR_cons, Res.bind_ok, Res.bind_ok]
      have e : (n : Int) + (((((T.count k : Nat) : Int) - ((U.count k : Nat) : Int)).natAbs : Nat) : Int) = ((n + dk T U k : Nat) : Int) := by
        unfold dk
        omega
      rw [e, ih, List.map_cons, List.sum_cons, Nat.add_assoc]
  unfold t_l_due
  rw [catR_ok (by omega), Res.bind_ok]
  unfold sortSetR
  rw [if_pos ⟨hn, by rw [List.length_append]; omega⟩, Res.bind_ok]
  have := loop (sortK (nubR (T ++ U))) 0
  rw [Nat.zero_add] at this
  rw [show ((0 : Int)) = ((0 : Nat) : Int) from rfl, this, Res.bind_ok, ap_of]
  · exact (sortK_perm _).nodup_iff.mpr (nubR_nodup _)
  · exact fun x hx => sortK_mem.mpr (nubR_mem.mpr (List.mem_append_left _ hx))
  · exact fun x hx => sortK_mem.mpr (nubR_mem.mpr (List.mem_append_right _ hx))
noncomputable def rowOf (W : Nat) (c : Int) : List Int := match t_l_heap [c] W with
  | .ok [r] => r
  | _ => []
theorem heap_one {c : Int} {W : Nat} (hc : Sm 1048700 c) (h0 : 0 < W) (h4 : W ≤ 4) : t_l_heap [c] W = .ok [rowOf W c] := by
  obtain ⟨T, e, l, _, _⟩ := heap_ok (cells := [c]) (fun z hz => by rw [List.mem_singleton.mp hz]; exact hc) (by simp) h0 h4
  obtain ⟨r, rfl⟩ := List.length_eq_one_iff.mp l
  unfold rowOf
  rw [e]
def Hps (b : Nat) (R : List (List Int)) (s : List (List (List Int))) : Prop := s.length = 3 ∧ ∀ h ∈ s, h.length ≤ b ∧ ∀ r ∈ h, r ∈ R
theorem deal_ok {b : Nat} {R : List (List Int)} {s : List (List (List Int))} {r : List Int} {x : Int} (h : Hps b R s) (hr : r ∈ R) (hb : b ≤ 1000) (h0 : 0 ≤ x) (h3 : x < 3) : Ok (((getL s x).bind fun a11 => (catR a11 [r])).bind fun a13 => putLR s x a13) (Hps (b + 1) R) := by
  obtain ⟨h1, h2⟩ := h
  obtain ⟨i, rfl⟩ := Int.eq_ofNat_of_zero_le h0
  have il : i < s.length := by omega
  obtain ⟨q1, q2⟩ := h2 _ (List.getElem_mem il)
  rw [getL_nat (List.getElem?_eq_getElem il), Res.bind_ok, catR_ok (by rw [List.length_singleton]; omega), Res.bind_ok]
  have e : putLR s (i : Int) (s[i] ++ [r]) = .ok (s.set i (s[i] ++ [r])) := by
    unfold putLR ixN
    have c1 : ¬ ((i : Int) < 0) := by omega
    simp [c1, il]
  refine ⟨_, e, by rw [List.length_set]; exact h1, fun g hg => ?_⟩
  rcases List.mem_or_eq_of_mem_set hg with hg | rfl
  · obtain ⟨a1, a2⟩ := h2 g hg
    exact ⟨by omega, a2⟩
  · refine ⟨by rw [List.length_append, List.length_singleton]; omega, fun y hy => ?_⟩
    rcases List.mem_append.mp hy with hy | hy
    · exact q2 y hy
    · rw [List.mem_singleton.mp hy]; exact hr
theorem Hps.up {b c : Nat} {R S : List (List Int)} {s : List (List (List Int))} (h : Hps b R s) (hb : b ≤ c) (hR : ∀ r ∈ R, r ∈ S) : Hps c S s := ⟨h.1, fun g hg => ⟨Nat.le_trans (h.2 g hg).1 hb, fun r hr => hR r ((h.2 g hg).2 r hr)⟩⟩
theorem law_typed (s : List Int) (hl : s.length ≤ 63) (hb : ∀ z ∈ s, Sm 1048576 z) : t_law s = .ok true := by
  have c0 := cell_at_eq s 0 (by decide)
  generalize s.getD (0 : Int).toNat 0 = x0 at c0
  obtain ⟨W, hW, W0, W4⟩ : ∃ W : Nat, 1 + x0 % 4 = (W : Int) ∧ 0 < W ∧ W ≤ 4 := ⟨(1 + x0 % 4).toNat, by omega, by omega, by omega⟩
  have cm : ∀ z ∈ cutL s none (some 120), Sm 1048700 z := fun z hz => (hb z (by unfold cutL at hz; exact List.mem_of_mem_drop (List.mem_of_mem_take hz))).mono (by decide)
  have cl : (cutL s none (some 120)).length ≤ 63 := by unfold cutL; rw [List.length_take, List.length_drop]; omega
  unfold t_law
  rw [c0]
  simp only [Res.bind_ok]
  rw [hW]
  obtain ⟨hs, eh, hI⟩ := Ok.forR (f := fun cell7 s6 =>
      (t_l_mix cell7 (270 : Int)).bind fun n8 =>
      (t_l_heap [cell7] W).bind fun row9 =>
      (((getL s6 (n8 % (3 : Int))).bind fun a11 => (catR a11 row9)).bind fun a13 => putLR s6 (n8 % (3 : Int)) a13).bind fun heaps10 =>
      (if ((n8 / (3 : Int)) % (2 : Int)) = (0 : Int) then (((getL heaps10 ((n8 / (6 : Int)) % (3 : Int))).bind fun a17 => (catR a17 row9)).bind fun a19 => putLR heaps10 ((n8 / (6 : Int)) % (3 : Int)) a19).bind fun heaps16 =>
      Res.ok heaps16 else Res.ok heaps10 : Res ((List (List (List Int))))).bind fun z15 =>
      Res.ok z15) (l := cutL s none (some 120)) (s := [([] : List (List Int)), ([] : List (List Int)), ([] : List (List Int))]) (fun d s => Hps (2 * d.length) (d.map (rowOf W)) s) ⟨rfl, fun h hh => by
        have : h = [] := by simpa using hh
        rw [this]; exact ⟨by simp, fun r hr => by cases hr⟩⟩ fun d c r s6 e hI => by
    have mc : c ∈ cutL s none (some 120) := by rw [e]; simp
    have dl : d.length ≤ 63 := by have := congrArg List.length e; simp at this; omega
    obtain ⟨n, en, n0, _⟩ := mix_ok (cm c mc) (k := 270) (by decide) (by decide)
    rw [en, Res.bind_ok, heap_one (cm c mc) W0 W4, Res.bind_ok]
    have hI' : Hps (2 * d.length) ((d ++ [c]).map (rowOf W)) s6 := hI.up (Nat.le_refl _) fun r hr => by rw [List.map_append]; exact List.mem_append_left _ hr
    have mr : rowOf W c ∈ (d ++ [c]).map (rowOf W) := by rw [List.map_append]; exact List.mem_append_right _ (List.mem_singleton.mpr rfl)
    refine (deal_ok hI' mr (by omega) (by omega) (by omega)).bind fun s7 h7 => ?_
    refine Ok.bind (P := Hps (2 * d.length + 2) ((d ++ [c]).map (rowOf W))) (Ok.ite (fun _ => (deal_ok h7 mr (by omega) (by omega) (by omega)).bind fun s8 h8 => ⟨s8, rfl, h8⟩) fun _ => ⟨s7, rfl, h7.up (by omega) fun _ h => h⟩) fun s9 h9 => ⟨s9, rfl, h9.up (by rw [List.length_append, List.length_singleton]; omega) fun _ h => h⟩
  rw [eh, Res.bind_ok]
  obtain ⟨hs3, hsI⟩ := hI
  rw [compR_fn (g := sortK) (by omega) fun h hh => sortKR_ok (by have := (hsI h hh).1; omega), Res.bind_ok, rng1_ok (by decide) (by decide), Res.bind_ok]
  rw [forX_unit]
  · rfl
  intro j hj
  rw [rangeI_mem] at hj
  have at_ : ∀ x : Int, 0 ≤ x → x < 3 → ∃ T, getL (hs.map sortK) x = .ok T ∧ sortK T = T ∧ T.length ≤ 126 ∧ ∀ r ∈ T, r ∈ (cutL s none (some 120)).map (rowOf W) := fun x h0 h3 => by
    obtain ⟨T, e, hT⟩ := Ok.getL (l := hs.map sortK) (i := x) (P := fun T => T ∈ hs.map sortK) (by omega) (by rw [List.length_map]; omega) fun a ha => ha
    obtain ⟨h, hh, rfl⟩ := List.mem_map.mp hT
    obtain ⟨a1, a2⟩ := hsI h hh
    exact ⟨_, e, sortK_two h, by rw [sortK_len]; omega, fun r hr => a2 r (sortK_mem.mp hr)⟩
  obtain ⟨one, e1, s1, l1, r1⟩ := at_ j (by omega) (by omega)
  obtain ⟨two, e2, s2, l2, r2⟩ := at_ ((j + 1) % 3) (by omega) (by omega)
  obtain ⟨thr, e3, s3, l3, r3⟩ := at_ ((j + 2) % 3) (by omega) (by omega)
  have few : (nubR (one ++ two)).length < 64 := by
    have := List.Nodup.length_le_of_subset (nubR_nodup (one ++ two)) (l₂ := (cutL s none (some 120)).map (rowOf W)) fun k hk => by
      rcases List.mem_append.mp (nubR_mem.mp hk) with h | h
      · exact r1 k h
      · exact r2 k h
    rw [List.length_map] at this
    omega
  have ap_ : ∀ T U : List (List Int), T.length ≤ 1000 → U.length ≤ 1000 → t_heaps_apart T U = .ok ((ap T U : Nat) : Int) := fun T U h k => apart_any (by omega)
  rw [e1, e2, e3]
  simp only [Res.bind_ok]
  rw [ap_ one two (by omega) (by omega), ap_ two one (by omega) (by omega), ap_ one one (by omega) (by omega), ap_ one thr (by omega) (by omega), ap_ thr two (by omega) (by omega), due_ok (by omega) few]
  simp only [Res.bind_ok]
  have wh : t_l_whole ((ap one two : Nat) : Int) = .ok true := by unfold t_l_whole; simp
  rw [wh, Res.bind_ok, show (!true) = false from rfl]
  have d1 : ¬ ((decide (((ap one two : Nat) : Int) = (0 : Int))) ≠ (decide (one = two))) := by
    rw [ne_eq, Classical.not_not, decide_eq_decide]
    rw [← ap_zero s1 s2]
    omega
  have d2 : decide (((ap one thr : Nat) : Int) + ((ap thr two : Nat) : Int) < ((ap one two : Nat) : Int)) = false := by
    have := ap_tri one thr two
    exact decide_eq_false (by omega)
  have sm : Sm 1048700 (s.sum + j) := ((Sm.sum hb (by omega)).mono (show 1048576 + 6 ≤ 1048690 by decide)).add ((Sm.lit (i := j) 2 (by omega)).mono (by decide)) |>.mono (by decide)
  rw [if_neg d1, d2, ap_symm two one, ap_self, heap_one sm W0 W4]
  simp only [Res.bind_ok, Bool.false_eq_true, if_false, ne_eq, not_true_eq_false, decide_false]
  rw [catR_ok (by rw [List.length_singleton]; omega), Res.bind_ok, sortKR_ok (by rw [List.length_append, List.length_singleton]; omega), Res.bind_ok]
  have pm : (sortK (one ++ [rowOf W (s.sum + j)])).Perm (rowOf W (s.sum + j) :: one) := (sortK_perm _).trans (List.perm_append_comm)
  rw [ap_ one _ (by omega) (by rw [sortK_len, List.length_append, List.length_singleton]; omega), ap_ _ two (by rw [sortK_len, List.length_append, List.length_singleton]; omega) (by omega), ap_perm (List.Perm.refl one) pm, ap_perm pm (List.Perm.refl two)]
  have a1 : ap one (rowOf W (s.sum + j) :: one) = 1 := by
    rw [ap_symm]
    have := ap_step (rowOf W (s.sum + j)) one one
    rw [ap_self] at this
    omega
  have a2 := ap_step (rowOf W (s.sum + j)) one two
  have a3 : ((((ap (rowOf W (s.sum + j) :: one) two : Nat) : Int) - ((ap one two : Nat) : Int)).natAbs : Int) = 1 := by omega
  rw [a1]
  simp only [Res.bind_ok]
  rw [a3]
  simp
theorem law_holds (ns : List Int) (hl : ns.length ≤ 63) (hb : ∀ z ∈ ns, intBits z ≤ 1048576) : F_law [.lst (ns.map D.int)] = .ok (.bl true) := by
  obtain ⟨d, h1, h2⟩ := (r_law ns _ ⟨_, rfl, _, rfl, A2.fn.mpr rfl⟩).get (law_typed ns hl fun z hz => sm_bits (hb z hz))
  rw [h1, show d = _ from h2]

end DLaw
namespace DLaw
open PySem PySem.Spec PyProof.Rows L2
open DL
abbrev N_l_cell_at : List Str := ["_law_script", "_law_k"]
theorem sc_l_cell_at : FnScope N_l_cell_at ["_law_script", "_law_k"] (defScope s_l_cell_at) := ⟨rfl, rfl, rfl, by decide +kernel, rfl, by decide +kernel, by decide +kernel⟩
theorem ok_l_cell_at {P : Program} {w : World} {K : PySem.W.Frag} {mg : Str → Option Value} {base : Heap} {f : Addr} {fd : FuncData} (T : Txt K mg) (F : Fun K "_law_cell_at" "_law_cell_at" s_l_cell_at f fd)  :
    FnOk P w K mg base (L2.CX P w) 1 f fd ["_law_script", "_law_k"] (spD K mg 2 F_l_cell_at) :=
  fnD (N := N_l_cell_at) (k := 0) (fb := b_l_cell_at) F sc_l_cell_at fun cdv A outer s H G E hr tk hp =>
    by have hu := Room.hu hr; exact (dss_cons (ds_if (al := []) (dt_cmp (od_lt hu) (dr (dv 1)) (dr (de_b1 c1_len rfl T.z_len rfl (dr (dv 0)))) (nomark _)) (dss_cons (ds_ret (al := []) (de_ixA hr.hu1 (dr (dv 0)) (dv 1) (fun _ _ => rfl) (fun _ _ => rfl))) dss_nil) dss_nil) (dss_cons (ds_ret (al := []) de_int) dss_nil))
abbrev N_l_mix : List Str := ["_law_cell", "_law_k", "_law_m"]
theorem sc_l_mix : FnScope N_l_mix ["_law_cell", "_law_k"] (defScope s_l_mix) := ⟨rfl, rfl, rfl, by decide +kernel, rfl, by decide +kernel, by decide +kernel⟩
theorem ok_l_mix {P : Program} {w : World} {K : PySem.W.Frag} {mg : Str → Option Value} {base : Heap} {f : Addr} {fd : FuncData} (T : Txt K mg) (F : Fun K "_law_mix" "_law_mix" s_l_mix f fd)  :
    FnOk P w K mg base (L2.CX P w) 1 f fd ["_law_cell", "_law_k"] (spD K mg 2 F_l_mix) :=
  fnD (N := N_l_mix) (k := 0) (fb := b_l_mix) F sc_l_mix fun cdv A outer s H G E hr tk hp =>
    by exact (dss_cons (ds_set (al := []) (i := 2) sc_l_mix.nd rfl (by first | exact .inl rfl | exact .inr rfl) (de_bin od_mod (dr (de_bin od_add (dr (de_bin od_mul (dr (dv 0)) (dr de_int))) (dr (de_bin od_mul (dr (de_bin od_mul (dr (de_bin od_add (dr (dv 1)) (dr de_int))) (dr (de_bin od_add (dr (dv 1)) (dr de_int))))) (dr de_int))))) (dr de_int))) (dss_cons (ds_ret (al := []) (de_bin od_mod (dr (de_bin od_mul (dr (dv 2)) (dr (dv 2)))) (dr de_int))) dss_nil))
abbrev N_l_number : List Str := ["_law_cell", "_law_k", "_law_many", "_law_n"]
theorem sc_l_number : FnScope N_l_number ["_law_cell", "_law_k", "_law_many"] (defScope s_l_number) := ⟨rfl, rfl, rfl, by decide +kernel, rfl, by decide +kernel, by decide +kernel⟩
theorem ok_l_number {P : Program} {w : World} {K : PySem.W.Frag} {mg : Str → Option Value} {base : Heap} {f : Addr} {fd : FuncData} (T : Txt K mg) (F : Fun K "_law_number" "_law_number" s_l_number f fd) (c_l_mix : CallOk P w K mg base 1 "_law_mix" ["_law_cell", "_law_k"] F_l_mix) :
    FnOk P w K mg base (L2.CX P w) 2 f fd ["_law_cell", "_law_k", "_law_many"] (spD K mg 3 F_l_number) :=
  fnD (N := N_l_number) (k := 1) (fb := b_l_number) F sc_l_number fun cdv A outer s H G E hr tk hp =>
    by have hu := Room.hu hr; exact (dss_cons (ds_set (al := []) (i := 3) sc_l_number.nd rfl (by first | exact .inl rfl | exact .inr rfl) (de_callE c_l_mix hr rfl tk (da_cons (dv 0) (da_cons (dv 1) da_nil)) (leq_cons (leq_cons leq_nil)))) (dss_cons (ds_if (al := []) (dt_cmp (od_eq hu) (dr (de_bin od_mod (dr (dv 3)) (dr de_int))) (dr de_int) (nomark _)) (dss_cons (ds_ret (al := []) (de_bin od_sub (dr (de_bin od_mod (dr (dv 0)) (dr (de_bin od_add (dr (de_bin od_mul (dr de_int) (dr (de_bin od_pow (dr de_int) (dr de_int))))) (dr de_int))))) (dr (de_bin od_pow (dr de_int) (dr de_int))))) dss_nil) dss_nil) (dss_cons (ds_ret (al := []) (de_bin od_sub (dr (de_bin od_mod (dr (de_bin od_div (dr (dv 3)) (dr de_int))) (dr (dv 2)))) (dr (de_bin od_div (dr (dv 2)) (dr de_int))))) dss_nil)))
abbrev N_l_heap : List Str := ["_law_cells", "_law_width", "_law_many", "_law_rows", "_law_cell", "_law_j"]
theorem sc_l_heap : FnScope N_l_heap ["_law_cells", "_law_width"] (defScope s_l_heap) := ⟨rfl, rfl, rfl, by decide +kernel, rfl, by decide +kernel, by decide +kernel⟩
theorem ok_l_heap {P : Program} {w : World} {K : PySem.W.Frag} {mg : Str → Option Value} {base : Heap} {f : Addr} {fd : FuncData} (T : Txt K mg) (F : Fun K "_law_heap" "_law_heap" s_l_heap f fd) (c_l_number : CallOk P w K mg base 2 "_law_number" ["_law_cell", "_law_k", "_law_many"] F_l_number) :
    FnOk P w K mg base (L2.CX P w) 3 f fd ["_law_cells", "_law_width"] (spD K mg 2 F_l_heap) :=
  fnD (N := N_l_heap) (k := 2) (fb := b_l_heap) F sc_l_heap fun cdv A outer s H G E hr tk hp =>
    by have hu := Room.hu hr; exact (dss_cons (ds_set (al := []) (i := 2) sc_l_heap.nd rfl (by first | exact .inl rfl | exact .inr rfl) (de_ixA hr.hu1 (dr (de_of (df_lst (da_cons de_int (da_cons de_int (da_cons de_int (da_cons de_int da_nil)))) (len_cons (len_cons (len_cons (len_cons len_nil)))) (szl (by decide))))) (de_bin od_sub (dr (dv 1)) (dr de_int)) (fun _ _ => rfl) (fun _ _ => rfl))) (dss_cons (ds_setF (al := []) (i := 3) sc_l_heap.nd rfl (by first | exact .inl rfl | exact .inr rfl) (df_lst da_nil len_nil (szl (by decide)))) (dss_cons (ds_for (al := []) hp rfl (di_seq (dv 0)) (dg_name (i := 4) sc_l_heap.nd rfl (by first | exact .inl rfl | exact .inr rfl)) (fun _ => (dss_cons (ds_mut (al := []) (i := 3) PySem.F.slot_list_append PySem.F.type_list_append mut_append rfl (by first | exact .inl rfl | exact .inr (.inl rfl) | exact .inr (.inr rfl)) (da_cons (de_t1 c1_tuple rfl T.z_tuple rfl (dr (de_of (df_comp (own := [("_law_j", 5)]) rfl sc_l_heap.nd (dir_of (di_range1 rfl T.z_range (dv 1))) (blkOk_by (N := N_l_heap) (sc := defScope s_l_heap) (by decide +kernel)) (fun _ _ _ _ _ => (dg_name (i := 5) sc_l_heap.nd rfl (by first | exact .inl rfl | exact .inr rfl))) (fun _ _ _ _ _ => dts_nil) (fun _ _ _ _ _ => (de_callE c_l_number hr rfl takes0 (da_cons (dv 4) (da_cons (de_bin od_add (dr de_int) (dr (de_bin od_mul (dr de_int) (dr (dv 5))))) (da_cons (dv 2) da_nil))) (leq_cons (leq_cons (leq_cons leq_nil))))) (by decide))))) da_nil)) dss_nil))) (dss_cons (ds_ret (al := []) (de_t1 c1_tuple rfl T.z_tuple rfl (dr (de_of (df_b1 (c1_sorted rfl hu) rfl T.z_sorted rfl (dr_var (i := 3) rfl (by first | exact .inl rfl | exact .inr (.inl rfl) | exact .inr (.inr rfl)))))))) dss_nil))))
abbrev N_heaps_apart : List Str := ["one", "two", "left", "row", "many"]
theorem sc_heaps_apart : FnScope N_heaps_apart ["one", "two"] (defScope s_heaps_apart) := ⟨rfl, rfl, rfl, by decide +kernel, rfl, by decide +kernel, by decide +kernel⟩
theorem ok_heaps_apart {P : Program} {w : World} {K : PySem.W.Frag} {mg : Str → Option Value} {base : Heap} {f : Addr} {fd : FuncData} (T : Txt K mg) (F : Fun K "heaps_apart" "heaps_apart" s_heaps_apart f fd)  :
    FnOk P w K mg base (L2.CX P w) 1 f fd ["one", "two"] (spD K mg 2 F_heaps_apart) :=
  fnD (N := N_heaps_apart) (k := 0) (fb := b_heaps_apart) F sc_heaps_apart fun cdv A outer s H G E hr tk hp =>
    by exact (dss_cons (ds_setF (al := []) (i := 2) sc_heaps_apart.nd rfl (by first | exact .inl rfl | exact .inr rfl) df_dnewT) (dss_cons (ds_for (al := []) hp rfl (di_seq (dv 0)) (dg_name (i := 3) sc_heaps_apart.nd rfl (by first | exact .inl rfl | exact .inr rfl)) (fun _ => (dss_cons (ds_putD (al := []) (i := 2) hr.hu1 rfl (by first | exact .inl rfl | exact .inr (.inl rfl) | exact .inr (.inr rfl)) (dv 3) (de_bin od_add (dr (de_get2 hr.hu1 (dr_var (i := 2) rfl (by first | exact .inl rfl | exact .inr (.inl rfl) | exact .inr (.inr rfl))) (dv 3) de_int ⟨rfl, rfl, rfl, rfl⟩)) (dr de_int))) dss_nil))) (dss_cons (ds_for (al := []) hp rfl (di_seq (dv 1)) (dg_name (i := 3) sc_heaps_apart.nd rfl (by first | exact .inl rfl | exact .inr rfl)) (fun _ => (dss_cons (ds_putD (al := []) (i := 2) hr.hu1 rfl (by first | exact .inl rfl | exact .inr (.inl rfl) | exact .inr (.inr rfl)) (dv 3) (de_bin od_sub (dr (de_get2 hr.hu1 (dr_var (i := 2) rfl (by first | exact .inl rfl | exact .inr (.inl rfl) | exact .inr (.inr rfl))) (dv 3) de_int ⟨rfl, rfl, rfl, rfl⟩)) (dr de_int))) dss_nil))) (dss_cons (ds_ret (al := [2]) (de_b1 (c1_sum rfl) rfl T.z_sum rfl (dr (de_of (df_comp (own := [("many", 4)]) rfl sc_heaps_apart.nd (dir_of (di_vals (de_var (i := 2) rfl (by first | exact .inl rfl | exact .inr (.inl rfl) | exact .inr (.inr rfl)) (by decide)))) (blkOk_by (N := N_heaps_apart) (sc := defScope s_heaps_apart) (by decide +kernel)) (fun _ _ _ _ _ => (dg_name (i := 4) sc_heaps_apart.nd rfl (by first | exact .inl rfl | exact .inr rfl))) (fun _ _ _ _ _ => dts_nil) (fun _ _ _ _ _ => (de_b1 c1_abs rfl T.z_abs rfl (dr (dv 4)))) (by decide)))))) dss_nil))))
abbrev N_l_whole : List Str := ["_law_found"]
theorem sc_l_whole : FnScope N_l_whole ["_law_found"] (defScope s_l_whole) := ⟨rfl, rfl, rfl, by decide +kernel, rfl, by decide +kernel, by decide +kernel⟩
theorem ok_l_whole {P : Program} {w : World} {K : PySem.W.Frag} {mg : Str → Option Value} {base : Heap} {f : Addr} {fd : FuncData} (T : Txt K mg) (F : Fun K "_law_whole" "_law_whole" s_l_whole f fd)  :
    FnOk P w K mg base (L2.CX P w) 1 f fd ["_law_found"] (spD K mg 1 F_l_whole) :=
  fnD (N := N_l_whole) (k := 0) (fb := b_l_whole) F sc_l_whole fun cdv A outer s H G E hr tk hp =>
    by exact (dss_cons (ds_ret (al := []) (de_and (de_isi is_int rfl T.z_isinstance rfl (dr (dv 0)) rfl T.z_int rfl) (de_one (de_not (de_isi is_bool rfl T.z_isinstance rfl (dr (dv 0)) rfl T.z_bool rfl))))) dss_nil)
abbrev N_l_due : List Str := ["_law_one", "_law_other", "_law_far", "_law_row"]
theorem sc_l_due : FnScope N_l_due ["_law_one", "_law_other"] (defScope s_l_due) := ⟨rfl, rfl, rfl, by decide +kernel, rfl, by decide +kernel, by decide +kernel⟩
theorem ok_l_due {P : Program} {w : World} {K : PySem.W.Frag} {mg : Str → Option Value} {base : Heap} {f : Addr} {fd : FuncData} (T : Txt K mg) (F : Fun K "_law_due" "_law_due" s_l_due f fd)  :
    FnOk P w K mg base (L2.CX P w) 1 f fd ["_law_one", "_law_other"] (spD K mg 2 F_l_due) :=
  fnD (N := N_l_due) (k := 0) (fb := b_l_due) F sc_l_due fun cdv A outer s H G E hr tk hp =>
    by have hu := Room.hu hr; exact (dss_cons (ds_set (al := []) (i := 2) sc_l_due.nd rfl (by first | exact .inl rfl | exact .inr rfl) de_int) (dss_cons (ds_for (al := []) hp rfl (di_seq (de_of (df_sortSetP rfl (hu) rfl T.z_sorted rfl T.z_set (de_bin od_catP (dr (dv 0)) (dr (dv 1)))))) (dg_name (i := 3) sc_l_due.nd rfl (by first | exact .inl rfl | exact .inr rfl)) (fun _ => (dss_cons (ds_set (al := []) (i := 2) sc_l_due.nd rfl (by first | exact .inl rfl | exact .inr rfl) (de_bin od_add (dr (dv 2)) (dr (de_b1 c1_abs rfl T.z_abs rfl (dr (de_bin od_sub (dr (de_methP PySem.F.slot_tuple_count PySem.F.type_tuple_count (meth_countP hr.hu65) (dr (dv 0)) (da_cons (dv 3) da_nil))) (dr (de_methP PySem.F.slot_tuple_count PySem.F.type_tuple_count (meth_countP hr.hu65) (dr (dv 1)) (da_cons (dv 3) da_nil))))))))) dss_nil))) (dss_cons (ds_ret (al := []) (dv 2)) dss_nil)))
abbrev N_law : List Str := ["_law_script", "_law_width", "_law_heaps", "_law_cell", "_law_n", "_law_row", "_law_heap_here", "_law_j", "_law_one", "_law_other", "_law_far", "_law_third", "_law_more"]
theorem sc_law : FnScope N_law ["_law_script"] (defScope s_law) := ⟨rfl, rfl, rfl, by decide +kernel, rfl, by decide +kernel, by decide +kernel⟩
theorem ok_law {P : Program} {w : World} {K : PySem.W.Frag} {mg : Str → Option Value} {base : Heap} {f : Addr} {fd : FuncData} (T : Txt K mg) (F : Fun K "law" "law" s_law f fd) (c_l_cell_at : CallOk P w K mg base 3 "_law_cell_at" ["_law_script", "_law_k"] F_l_cell_at) (c_l_mix : CallOk P w K mg base 3 "_law_mix" ["_law_cell", "_law_k"] F_l_mix) (c_l_heap : CallOk P w K mg base 3 "_law_heap" ["_law_cells", "_law_width"] F_l_heap) (c_heaps_apart : CallOk P w K mg base 3 "heaps_apart" ["one", "two"] F_heaps_apart) (c_l_whole : CallOk P w K mg base 3 "_law_whole" ["_law_found"] F_l_whole) (c_l_due : CallOk P w K mg base 3 "_law_due" ["_law_one", "_law_other"] F_l_due) :
    FnOk P w K mg base (L2.CX P w) 4 f fd ["_law_script"] (spD K mg 1 F_law) :=
  fnD (N := N_law) (k := 3) (fb := b_law) F sc_law fun cdv A outer s H G E hr tk hp =>
    by have hu := Room.hu hr; exact (dss_cons (ds_set (al := []) (i := 1) sc_law.nd rfl (by first | exact .inl rfl | exact .inr rfl) (de_bin od_add (dr de_int) (dr (de_bin od_mod (dr (de_callE c_l_cell_at hr rfl tk (da_cons (dv 0) (da_cons de_int da_nil)) (leq_cons (leq_cons leq_nil)))) (dr de_int))))) (dss_cons (ds_setF (al := []) (i := 2) sc_law.nd rfl (by first | exact .inl rfl | exact .inr rfl) (df_lst (da_cons (de_tup da_nil len_nil (by decide)) (da_cons (de_tup da_nil len_nil (by decide)) (da_cons (de_tup da_nil len_nil (by decide)) da_nil))) (len_cons (len_cons (len_cons len_nil))) (szl (by decide)))) (dss_cons (ds_for (al := []) hp rfl (di_seq (de_cut (dr (dv 0)) do_none (do_some de_int))) (dg_name (i := 3) sc_law.nd rfl (by first | exact .inl rfl | exact .inr rfl)) (fun _ => (dss_cons (ds_set (al := []) (i := 4) sc_law.nd rfl (by first | exact .inl rfl | exact .inr rfl) (de_callE c_l_mix hr rfl tk (da_cons (dv 3) (da_cons de_int da_nil)) (leq_cons (leq_cons leq_nil)))) (dss_cons (ds_set (al := []) (i := 5) sc_law.nd rfl (by first | exact .inl rfl | exact .inr rfl) (de_callE c_l_heap hr rfl tk (da_cons (de_of (df_lst (da_cons (dv 3) da_nil) (len_cons len_nil) (szl (by decide)))) (da_cons (dv 1) da_nil)) (leq_cons (leq_cons leq_nil)))) (dss_cons (ds_putL (al := []) (i := 2) rfl (by first | exact .inl rfl | exact .inr (.inl rfl) | exact .inr (.inr rfl)) (de_bin od_mod (dr (dv 4)) (dr de_int)) (de_bin od_add (dr (de_ixA hr.hu1 (dr_var (i := 2) rfl (by first | exact .inl rfl | exact .inr (.inl rfl) | exact .inr (.inr rfl))) (de_bin od_mod (dr (dv 4)) (dr de_int)) (fun _ _ => rfl) (fun _ _ => rfl))) (dr (dv 5)))) (dss_cons (ds_if (al := []) (dt_cmp (od_eq hu) (dr (de_bin od_mod (dr (de_bin od_div (dr (dv 4)) (dr de_int))) (dr de_int))) (dr de_int) (nomark _)) (dss_cons (ds_putL (al := []) (i := 2) rfl (by first | exact .inl rfl | exact .inr (.inl rfl) | exact .inr (.inr rfl)) (de_bin od_mod (dr (de_bin od_div (dr (dv 4)) (dr de_int))) (dr de_int)) (de_bin od_add (dr (de_ixA hr.hu1 (dr_var (i := 2) rfl (by first | exact .inl rfl | exact .inr (.inl rfl) | exact .inr (.inr rfl))) (de_bin od_mod (dr (de_bin od_div (dr (dv 4)) (dr de_int))) (dr de_int)) (fun _ _ => rfl) (fun _ _ => rfl))) (dr (dv 5)))) dss_nil) dss_nil) dss_nil)))))) (dss_cons (ds_comp (al := [2]) (i := 2) (own := [("_law_heap_here", 6)]) true rfl sc_law.nd rfl rfl (sw_true rfl rfl rfl (by decide +kernel)) (dir_of (di_seq (de_var (i := 2) rfl (by first | exact .inl rfl | exact .inr (.inl rfl) | exact .inr (.inr rfl)) (by decide)))) (blkOk_by (N := N_law) (sc := defScope s_law) (by decide +kernel)) (fun _ _ _ _ _ => (dg_name (i := 6) sc_law.nd rfl (by first | exact .inl rfl | exact .inr rfl))) (fun _ _ _ _ _ => dts_nil) (fun _ _ _ _ _ => (de_t1 c1_tupleP rfl T.z_tuple rfl (dr (de_of (df_b1 (c1_sorted rfl hu) rfl T.z_sorted rfl (dr (dv 6))))))) (by decide)) (dss_cons (ds_for (al := []) hp rfl (di_range1 rfl T.z_range de_int) (dg_name (i := 7) sc_law.nd rfl (by first | exact .inl rfl | exact .inr rfl)) (fun _ => (dss_cons (ds_set (al := []) (i := 8) sc_law.nd rfl (by first | exact .inl rfl | exact .inr rfl) (de_ixA hr.hu1 (dr_var (i := 2) rfl (by first | exact .inl rfl | exact .inr (.inl rfl) | exact .inr (.inr rfl))) (dv 7) (fun _ _ => rfl) (fun _ _ => rfl))) (dss_cons (ds_set (al := []) (i := 9) sc_law.nd rfl (by first | exact .inl rfl | exact .inr rfl) (de_ixA hr.hu1 (dr_var (i := 2) rfl (by first | exact .inl rfl | exact .inr (.inl rfl) | exact .inr (.inr rfl))) (de_bin od_mod (dr (de_bin od_add (dr (dv 7)) (dr de_int))) (dr de_int)) (fun _ _ => rfl) (fun _ _ => rfl))) (dss_cons (ds_set (al := []) (i := 10) sc_law.nd rfl (by first | exact .inl rfl | exact .inr rfl) (de_callE c_heaps_apart hr rfl tk (da_cons (dv 8) (da_cons (dv 9) da_nil)) (leq_cons (leq_cons leq_nil)))) (dss_cons (ds_if (al := []) (dt_w (dw_or (dt_not (dt_truth (dr (de_callE c_l_whole hr rfl tk (da_cons (dv 10) da_nil) (leq_cons leq_nil))) (fun _ => rfl))) (dw_or (dt_cmp (od_ne hu) (dr (dv 10)) (dr (de_callE c_l_due hr rfl tk (da_cons (dv 8) (da_cons (dv 9) da_nil)) (leq_cons (leq_cons leq_nil)))) (nomark _)) (dw_or1 (dt_cmp (od_ne hu) (dr (de_callE c_heaps_apart hr rfl tk (da_cons (dv 9) (da_cons (dv 8) da_nil)) (leq_cons (leq_cons leq_nil)))) (dr (dv 10)) (nomark _)))))) (dss_cons (ds_ret (al := []) de_bl) dss_nil) dss_nil) (dss_cons (ds_if (al := []) (dt_w (dw_or (dt_cmp (od_ne hu) (dr (de_cmp (od_eq hu) (dr (dv 10)) (dr de_int) (nomark _))) (dr (de_cmp (od_eq hu) (dr (dv 8)) (dr (dv 9)) (nomark _))) (nomark _)) (dw_or1 (dt_cmp (od_ne hu) (dr (de_callE c_heaps_apart hr rfl tk (da_cons (dv 8) (da_cons (dv 8) da_nil)) (leq_cons (leq_cons leq_nil)))) (dr de_int) (nomark _))))) (dss_cons (ds_ret (al := []) de_bl) dss_nil) dss_nil) (dss_cons (ds_set (al := []) (i := 11) sc_law.nd rfl (by first | exact .inl rfl | exact .inr rfl) (de_ixA hr.hu1 (dr_var (i := 2) rfl (by first | exact .inl rfl | exact .inr (.inl rfl) | exact .inr (.inr rfl))) (de_bin od_mod (dr (de_bin od_add (dr (dv 7)) (dr de_int))) (dr de_int)) (fun _ _ => rfl) (fun _ _ => rfl))) (dss_cons (ds_if (al := []) (dt_cmp (od_gt hu) (dr (dv 10)) (dr (de_bin od_add (dr (de_callE c_heaps_apart hr rfl tk (da_cons (dv 8) (da_cons (dv 11) da_nil)) (leq_cons (leq_cons leq_nil)))) (dr (de_callE c_heaps_apart hr rfl tk (da_cons (dv 11) (da_cons (dv 9) da_nil)) (leq_cons (leq_cons leq_nil)))))) (nomark _)) (dss_cons (ds_ret (al := []) de_bl) dss_nil) dss_nil) (dss_cons (ds_set (al := []) (i := 12) sc_law.nd rfl (by first | exact .inl rfl | exact .inr rfl) (de_t1 c1_tupleP rfl T.z_tuple rfl (dr (de_of (df_b1 (c1_sortedX rfl hu) rfl T.z_sorted rfl (dr (de_bin od_catM (dr (dv 8)) (dr (de_callE c_l_heap hr rfl tk (da_cons (de_of (df_lst (da_cons (de_bin od_add (dr (de_b1 (c1_sum rfl) rfl T.z_sum rfl (dr (dv 0)))) (dr (dv 7))) da_nil) (len_cons len_nil) (szl (by decide)))) (da_cons (dv 1) da_nil)) (leq_cons (leq_cons leq_nil))))))))))) (dss_cons (ds_if (al := []) (dt_w (dw_or (dt_cmp (od_ne hu) (dr (de_callE c_heaps_apart hr rfl tk (da_cons (dv 8) (da_cons (dv 12) da_nil)) (leq_cons (leq_cons leq_nil)))) (dr de_int) (nomark _)) (dw_or1 (dt_cmp (od_ne hu) (dr (de_b1 c1_abs rfl T.z_abs rfl (dr (de_bin od_sub (dr (de_callE c_heaps_apart hr rfl tk (da_cons (dv 12) (da_cons (dv 9) da_nil)) (leq_cons (leq_cons leq_nil)))) (dr (dv 10)))))) (dr de_int) (nomark _))))) (dss_cons (ds_ret (al := []) de_bl) dss_nil) dss_nil) dss_nil))))))))))) (dss_cons (ds_ret (al := []) de_bl) dss_nil))))))
end DLaw
namespace DLaw
open PySem PySem.Spec PyProof.Rows L2
open DL
theorem all_mk {P : Program} {w : World} {K : PySem.W.Frag} {h : Heap} {mg : Str → Option Value} {fa : Addr} (X : K.In h) (G : h.Ns mainGlobals mg) (hfa : mg "law" = some (.ref fa))
    {f1 f2 f3 f4 f5 f6 f7 f8 : Addr} {od1 an1 od2 an2 od3 an3 od4 an4 od5 an5 od6 an6 od7 an7 od8 an8 : Option Addr} {sl1 sl2 sl3 sl4 sl5 sl6 sl7 sl8 : Array (Option Value)} {oc1 kV1 dc1 pm1 cd1 ct1 oc2 kV2 dc2 pm2 cd2 ct2 oc3 kV3 dc3 pm3 cd3 ct3 oc4 kV4 dc4 pm4 cd4 ct4 oc5 kV5 dc5 pm5 cd5 ct5 oc6 kV6 dc6 pm6 cd6 ct6 oc7 kV7 dc7 pm7 cd7 ct7 oc8 kV8 dc8 pm8 cd8 ct8 : Value}
    (a1 : PySem.W.nsIn K mainGlobals "_law_cell_at" = some (some (.ref f1))) (l1 : K.lookup f1 = some ⟨oc1, od1, .func (PySem.W.fnOf "_law_cell_at" "_law_cell_at" (defArgs s_l_cell_at) (defBody s_l_cell_at) (defScope s_l_cell_at) .none kV1 dc1 pm1 an1 cd1 ct1), sl1⟩) (c1 : PySem.W.codeIn K cd1 "_law_cell_at" = true) (k1 : PySem.W.keepIn K (.ref f1) = true)
    (a2 : PySem.W.nsIn K mainGlobals "_law_mix" = some (some (.ref f2))) (l2 : K.lookup f2 = some ⟨oc2, od2, .func (PySem.W.fnOf "_law_mix" "_law_mix" (defArgs s_l_mix) (defBody s_l_mix) (defScope s_l_mix) .none kV2 dc2 pm2 an2 cd2 ct2), sl2⟩) (c2 : PySem.W.codeIn K cd2 "_law_mix" = true) (k2 : PySem.W.keepIn K (.ref f2) = true)
    (a3 : PySem.W.nsIn K mainGlobals "_law_number" = some (some (.ref f3))) (l3 : K.lookup f3 = some ⟨oc3, od3, .func (PySem.W.fnOf "_law_number" "_law_number" (defArgs s_l_number) (defBody s_l_number) (defScope s_l_number) .none kV3 dc3 pm3 an3 cd3 ct3), sl3⟩) (c3 : PySem.W.codeIn K cd3 "_law_number" = true) (k3 : PySem.W.keepIn K (.ref f3) = true)
    (a4 : PySem.W.nsIn K mainGlobals "_law_heap" = some (some (.ref f4))) (l4 : K.lookup f4 = some ⟨oc4, od4, .func (PySem.W.fnOf "_law_heap" "_law_heap" (defArgs s_l_heap) (defBody s_l_heap) (defScope s_l_heap) .none kV4 dc4 pm4 an4 cd4 ct4), sl4⟩) (c4 : PySem.W.codeIn K cd4 "_law_heap" = true) (k4 : PySem.W.keepIn K (.ref f4) = true)
    (a5 : PySem.W.nsIn K mainGlobals "heaps_apart" = some (some (.ref f5))) (l5 : K.lookup f5 = some ⟨oc5, od5, .func (PySem.W.fnOf "heaps_apart" "heaps_apart" (defArgs s_heaps_apart) (defBody s_heaps_apart) (defScope s_heaps_apart) .none kV5 dc5 pm5 an5 cd5 ct5), sl5⟩) (c5 : PySem.W.codeIn K cd5 "heaps_apart" = true) (k5 : PySem.W.keepIn K (.ref f5) = true)
    (a6 : PySem.W.nsIn K mainGlobals "_law_whole" = some (some (.ref f6))) (l6 : K.lookup f6 = some ⟨oc6, od6, .func (PySem.W.fnOf "_law_whole" "_law_whole" (defArgs s_l_whole) (defBody s_l_whole) (defScope s_l_whole) .none kV6 dc6 pm6 an6 cd6 ct6), sl6⟩) (c6 : PySem.W.codeIn K cd6 "_law_whole" = true) (k6 : PySem.W.keepIn K (.ref f6) = true)
    (a7 : PySem.W.nsIn K mainGlobals "_law_due" = some (some (.ref f7))) (l7 : K.lookup f7 = some ⟨oc7, od7, .func (PySem.W.fnOf "_law_due" "_law_due" (defArgs s_l_due) (defBody s_l_due) (defScope s_l_due) .none kV7 dc7 pm7 an7 cd7 ct7), sl7⟩) (c7 : PySem.W.codeIn K cd7 "_law_due" = true) (k7 : PySem.W.keepIn K (.ref f7) = true)
    (a8 : PySem.W.nsIn K mainGlobals "law" = some (some (.ref f8))) (l8 : K.lookup f8 = some ⟨oc8, od8, .func (PySem.W.fnOf "law" "law" (defArgs s_law) (defBody s_law) (defScope s_law) .none kV8 dc8 pm8 an8 cd8 ct8), sl8⟩) (c8 : PySem.W.codeIn K cd8 "law" = true) (k8 : PySem.W.keepIn K (.ref f8) = true)
    (z1 : PySem.W.nsIn K mainGlobals "len" = some none)
    (z2 : PySem.W.nsIn K mainGlobals "range" = some none)
    (z3 : PySem.W.nsIn K mainGlobals "tuple" = some none)
    (z4 : PySem.W.nsIn K mainGlobals "sorted" = some none)
    (z5 : PySem.W.nsIn K mainGlobals "abs" = some none)
    (z6 : PySem.W.nsIn K mainGlobals "sum" = some none)
    (z7 : PySem.W.nsIn K mainGlobals "isinstance" = some none)
    (z8 : PySem.W.nsIn K mainGlobals "int" = some none)
    (z9 : PySem.W.nsIn K mainGlobals "bool" = some none)
    (z10 : PySem.W.nsIn K mainGlobals "set" = some none)
    : ∃ fd : FuncData, (∀ (s : Shared) (u : Value), BindsTo s fd ⟨[u], []⟩ [("_law_script", u)]) ∧ ∀ base : Heap, K.In base → base.Ns mainGlobals mg → FnOk P w K mg base (L2.CX P w) 4 fa fd ["_law_script"] (spD K mg 1 F_law) := by
  have e := hfa.symm.trans (PySem.W.mg_of X G a8)
  cases e
  have T : Txt K mg := ⟨PySem.W.mg_none_of X G z1, PySem.W.mg_none_of X G z2, PySem.W.mg_none_of X G z3, PySem.W.mg_none_of X G z4, PySem.W.mg_none_of X G z5, PySem.W.mg_none_of X G z6, PySem.W.mg_none_of X G z7, PySem.W.mg_none_of X G z8, PySem.W.mg_none_of X G z9, PySem.W.mg_none_of X G z10⟩
  have F1 := fun_mk (st := s_l_cell_at) l1 c1 k1
  have b1 := F1.binds (ps := ["_law_script", "_law_k"]) fun _ _ _ _ _ _ us hl => match us, hl with | [_, _], _ => rfl
  have F2 := fun_mk (st := s_l_mix) l2 c2 k2
  have b2 := F2.binds (ps := ["_law_cell", "_law_k"]) fun _ _ _ _ _ _ us hl => match us, hl with | [_, _], _ => rfl
  have F3 := fun_mk (st := s_l_number) l3 c3 k3
  have b3 := F3.binds (ps := ["_law_cell", "_law_k", "_law_many"]) fun _ _ _ _ _ _ us hl => match us, hl with | [_, _, _], _ => rfl
  have F4 := fun_mk (st := s_l_heap) l4 c4 k4
  have b4 := F4.binds (ps := ["_law_cells", "_law_width"]) fun _ _ _ _ _ _ us hl => match us, hl with | [_, _], _ => rfl
  have F5 := fun_mk (st := s_heaps_apart) l5 c5 k5
  have b5 := F5.binds (ps := ["one", "two"]) fun _ _ _ _ _ _ us hl => match us, hl with | [_, _], _ => rfl
  have F6 := fun_mk (st := s_l_whole) l6 c6 k6
  have b6 := F6.binds (ps := ["_law_found"]) fun _ _ _ _ _ _ us hl => match us, hl with | [_], _ => rfl
  have F7 := fun_mk (st := s_l_due) l7 c7 k7
  have b7 := F7.binds (ps := ["_law_one", "_law_other"]) fun _ _ _ _ _ _ us hl => match us, hl with | [_, _], _ => rfl
  have F8 := fun_mk (st := s_law) l8 c8 k8
  have b8 := F8.binds (ps := ["_law_script"]) fun _ _ _ _ _ _ us hl => match us, hl with | [_], _ => rfl
  refine ⟨PySem.W.fnOf "law" "law" (defArgs s_law) (defBody s_law) (defScope s_law) .none kV8 dc8 pm8 an8 cd8 ct8, fun s v => .of_eq rfl, fun base _ _ => ?_⟩
  have h_l_cell_at : CallOk P w K mg base 1 "_law_cell_at" ["_law_script", "_law_k"] F_l_cell_at := ⟨f1, _, PySem.W.mg_of X G a1, k1, b1, ok_l_cell_at T F1 ⟩
  have h_l_mix : CallOk P w K mg base 1 "_law_mix" ["_law_cell", "_law_k"] F_l_mix := ⟨f2, _, PySem.W.mg_of X G a2, k2, b2, ok_l_mix T F2 ⟩
  have h_l_number : CallOk P w K mg base 2 "_law_number" ["_law_cell", "_law_k", "_law_many"] F_l_number := ⟨f3, _, PySem.W.mg_of X G a3, k3, b3, ok_l_number T F3 (h_l_mix.up (by decide))⟩
  have h_l_heap : CallOk P w K mg base 3 "_law_heap" ["_law_cells", "_law_width"] F_l_heap := ⟨f4, _, PySem.W.mg_of X G a4, k4, b4, ok_l_heap T F4 (h_l_number.up (by decide))⟩
  have h_heaps_apart : CallOk P w K mg base 1 "heaps_apart" ["one", "two"] F_heaps_apart := ⟨f5, _, PySem.W.mg_of X G a5, k5, b5, ok_heaps_apart T F5 ⟩
  have h_l_whole : CallOk P w K mg base 1 "_law_whole" ["_law_found"] F_l_whole := ⟨f6, _, PySem.W.mg_of X G a6, k6, b6, ok_l_whole T F6 ⟩
  have h_l_due : CallOk P w K mg base 1 "_law_due" ["_law_one", "_law_other"] F_l_due := ⟨f7, _, PySem.W.mg_of X G a7, k7, b7, ok_l_due T F7 ⟩
  exact ok_law T F8 (h_l_cell_at.up (by decide)) (h_l_mix.up (by decide)) (h_l_heap.up (by decide)) (h_heaps_apart.up (by decide)) (h_l_whole.up (by decide)) (h_l_due.up (by decide))
end DLaw
open PySem PySem.W PyProof.Rows
set_option maxRecDepth 100000 in
set_option maxHeartbeats 0 in
theorem PySem.Challenge.cw_blurdesk_k20_heaps_apart_holds : PySem.Challenge.rw_blurdesk_k20_heaps_apart.Holds := by
  w_on; o_law; k_head; (case hw => w_witness2)
  k_fill
  refine DL.endW (l := PySem.Challenge.rw_blurdesk_k20_heaps_apart) (k := 4) (F := DLaw.F_law) (x := "_law_script") rfl rfl (by decide) (fun w h Y => PySem.W.kIn_of Y) ?F DLaw.law_holds
  case F =>
    intro w mg fa h KX G hmg
    refine' DLaw.all_mk KX G hmg ?a1 ?l1 ?c1 ?k1 ?a2 ?l2 ?c2 ?k2 ?a3 ?l3 ?c3 ?k3 ?a4 ?l4 ?c4 ?k4 ?a5 ?l5 ?c5 ?k5 ?a6 ?l6 ?c6 ?k6 ?a7 ?l7 ?c7 ?k7 ?a8 ?l8 ?c8 ?k8 ?z1 ?z2 ?z3 ?z4 ?z5 ?z6 ?z7 ?z8 ?z9 ?z10
    (case a1 => k_is); (case l1 => k_is); (case c1 => k_is); (case k1 => k_is); (case a2 => k_is); (case l2 => k_is)
    (case c2 => k_is); (case k2 => k_is); (case a3 => k_is); (case l3 => k_is); (case c3 => k_is); (case k3 => k_is)
    (case a4 => k_is); (case l4 => k_is); (case c4 => k_is); (case k4 => k_is); (case a5 => k_is); (case l5 => k_is)
    (case c5 => k_is); (case k5 => k_is); (case a6 => k_is); (case l6 => k_is); (case c6 => k_is); (case k6 => k_is)
    (case a7 => k_is); (case l7 => k_is); (case c7 => k_is); (case k7 => k_is); (case a8 => k_is); (case l8 => k_is)
    (case c8 => k_is); (case k8 => k_is); (case z1 => k_is); (case z2 => k_is); (case z3 => k_is); (case z4 => k_is)
    (case z5 => k_is); (case z6 => k_is); (case z7 => k_is); (case z8 => k_is); (case z9 => k_is); (case z10 => k_is)
#print axioms PySem.Challenge.cw_blurdesk_k20_heaps_apart_holds
