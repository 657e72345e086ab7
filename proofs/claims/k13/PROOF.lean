import PyProof.Rows.All
import Wide.All
import OpenK.AllK
import Wide.FinOn
import HandS.ForExc
import HandS.ForMost
import HandS.Wide
import HandS.ExcOwn
import HandS.TupAny
import HandS.TupMul
import KE.DataCmp
import KE.SortData
import HandS.TupLen
import HandS.IsInst
import HandS.EndBits
import HandS.Zip
import HandS.ExcIs
import KE.DataMinMax
import KE.DataFind
import HandS.Conv
import HandS.Deep
import HandS.Style
import HandS.Text
import HandS.SetFor
import KE.GoesEnum
import HandS.Iter
import HandS.RevTup
import HandS.Rev
import HandS.DictComp
import HandS.Set
import HandS.TupSets
import HandS.SetKeys
import HandS.SortKw
import HandS.DictSubView
import KE.KDictWalk
import KE.KEqDict
import PySem.Challenge.RW_blurdesk_k13_tables_made
set_option Elab.async false
set_option linter.all false
set_option maxRecDepth 100000
set_option maxHeartbeats 4000000
/-! Plain data over the hand layer: values without addresses; lists and dicts by value, changed in place only through the one name that holds them. -/
namespace DL
open PySem PySem.Spec PyProof.Rows L2

/-- a value, whole -/
inductive D where
  | non
  | bl (b : Bool)
  | int (i : Int)
  | str (x : Str)
  | obj (v : V)
  | tup (xs : List D)
  | con (xs : List D)
  | lst (xs : List D)
  | dct (t : Bool) (kvs : List (D × D))

/-- what comes of a reckoning -/
inductive Res (α : Type) where
  | ok (a : α)
  | exc (c : String) (fs : List D)
  | bad

def Res.bind {α β : Type} (r : Res α) (f : α → Res β) : Res β := match r with
  | .ok a => f a
  | .exc c fs => .exc c fs
  | .bad => .bad
@[simp] theorem Res.bind_ok {α β : Type} (a : α) (f : α → Res β) : (Res.ok a).bind f = f a := Eq.trans rfl rfl
@[simp] theorem Res.bind_exc {α β : Type} (c : String) (fs : List D) (f : α → Res β) : (Res.exc c fs : Res α).bind f = .exc c fs := Eq.trans rfl rfl
@[simp] theorem Res.bind_bad {α β : Type} (f : α → Res β) : (Res.bad : Res α).bind f = .bad := Eq.trans rfl rfl

/-- keys of dicts -/
def keyD : Key → D
  | .inl i => .int i
  | .inr x => .str x
def keyT (k : List Key) : D := .tup (k.map keyD)

mutual
/-- the value v is the data d, over the heap's part G -/
def Rep (K : PySem.W.Frag) (G : Hp) : D → V → Prop
  | .non, v => v = .non
  | .bl b, v => v = .bl b
  | .int i, v => v = .int i
  | .str x, v => v = .str x
  | .obj u, v => v = u
  | .tup ds, v => ∃ a vs, v = .ref a ∧ G a = some (.tup vs) ∧ RepL K G ds vs
  | .con ds, v => ∃ a vs, v = .ref a ∧ SqT K G a vs ∧ RepL K G ds vs
  | .lst ds, v => ∃ a vs, v = .ref a ∧ SqL K G a vs ∧ RepL K G ds vs
  | .dct t kvs, v => ∃ a, v = .ref a ∧ ((t = false ∧ ∃ od ps, G a = some (.frz od (.dK ps)) ∧ kvs.map (·.1) = ps.map (fun p => keyD p.1) ∧ RepV K G kvs (ps.map (·.2))) ∨
      (t = true ∧ ∃ od ps, G a = some (.frz od (.dT ps)) ∧ kvs.map (·.1) = ps.map (fun p => keyT p.1) ∧ RepV K G kvs (ps.map (·.2))))
def RepL (K : PySem.W.Frag) (G : Hp) : List D → List V → Prop
  | [], vs => vs = []
  | d :: ds, vs => ∃ v r, vs = v :: r ∧ Rep K G d v ∧ RepL K G ds r
def RepV (K : PySem.W.Frag) (G : Hp) : List (D × D) → List V → Prop
  | [], vs => vs = []
  | (_, d) :: r, vs => ∃ v r', vs = v :: r' ∧ Rep K G d v ∧ RepV K G r r'
end

/-- the part G lies in H -/
def Sub (G H : Hp) : Prop := ∀ b o, G b = some o → H b = some o
theorem Sub.refl (H : Hp) : Sub H H := fun _ _ e => e
theorem Sub.trans {A B C : Hp} (h : Sub A B) (k : Sub B C) : Sub A C := fun b o e => k b o (h b o e)
theorem Sub.rd {G H : Hp} (h : Sub G H) {a : Addr} {u : HO} (r : Rd G a u) : Rd H a u := by
  rcases r with r | ⟨o, r⟩
  · exact .inl (h _ _ r)
  · exact .inr ⟨o, h _ _ r⟩
theorem Sub.sql {K : PySem.W.Frag} {G H : Hp} (h : Sub G H) {a : Addr} {xs : List V} (r : SqL K G a xs) : SqL K H a xs := by
  rcases r with r | r
  · exact .inl (h.rd r)
  · exact .inr r
theorem Sub.sqt {K : PySem.W.Frag} {G H : Hp} (h : Sub G H) {a : Addr} {xs : List V} (r : SqT K G a xs) : SqT K H a xs := by
  rcases r with r | r
  · exact .inl (h.rd r)
  · exact .inr r
theorem Sub.pt {K : PySem.W.Frag} {G H : Hp} (h : Sub G H) {a : Addr} {xs : List V} (r : G a = some (.tup xs)) : SqT K H a xs := SqT.of (h a _ r)
theorem Sub.upd {H : Hp} {a : Addr} {o : HO} (h : H a = none) : Sub H (upd H a o) := fun b u e => by
  rw [upd_ne (ne_of_none e h)]; exact e
theorem Sub.free {G H : Hp} (h : Sub G H) {a : Addr} (e : H a = none) : G a = none := by
  cases q : G a with
  | none => rfl
  | some o => rw [h _ _ q] at e; cases e

mutual
theorem Rep.mono {K : PySem.W.Frag} {G H : Hp} (h : Sub G H) : ∀ {d : D} {v : V}, Rep K G d v → Rep K H d v
  | .non, _, e => e
  | .bl _, _, e => e
  | .int _, _, e => e
  | .str _, _, e => e
  | .obj _, _, e => e
  | .tup _, _, ⟨a, vs, e, s, r⟩ => ⟨a, vs, e, h a _ s, RepL.mono h r⟩
  | .con _, _, ⟨a, vs, e, s, r⟩ => ⟨a, vs, e, h.sqt s, RepL.mono h r⟩
  | .lst _, _, ⟨a, vs, e, s, r⟩ => ⟨a, vs, e, h.sql s, RepL.mono h r⟩
  | .dct _ _, _, ⟨a, e, .inl ⟨t0, od, ps, s, k, r⟩⟩ => ⟨a, e, .inl ⟨t0, od, ps, h a _ s, k, RepV.mono h r⟩⟩
  | .dct _ _, _, ⟨a, e, .inr ⟨t0, od, ps, s, k, r⟩⟩ => ⟨a, e, .inr ⟨t0, od, ps, h a _ s, k, RepV.mono h r⟩⟩
theorem RepL.mono {K : PySem.W.Frag} {G H : Hp} (h : Sub G H) : ∀ {ds : List D} {vs : List V}, RepL K G ds vs → RepL K H ds vs
  | [], _, e => e
  | _ :: _, _, ⟨v, r, e, x, y⟩ => ⟨v, r, e, Rep.mono h x, RepL.mono h y⟩
theorem RepV.mono {K : PySem.W.Frag} {G H : Hp} (h : Sub G H) : ∀ {ds : List (D × D)} {vs : List V}, RepV K G ds vs → RepV K H ds vs
  | [], _, e => e
  | (_, _) :: _, _, ⟨v, r, e, x, y⟩ => ⟨v, r, e, Rep.mono h x, RepV.mono h y⟩
end

section
variable {K : PySem.W.Frag} {G : Hp}
theorem RepL.nil : RepL K G [] [] := rfl
theorem RepL.cons {d : D} {v : V} {ds : List D} {vs : List V} (h : Rep K G d v) (t : RepL K G ds vs) : RepL K G (d :: ds) (v :: vs) := ⟨v, vs, rfl, h, t⟩
theorem RepL.length : ∀ {ds : List D} {vs : List V}, RepL K G ds vs → vs.length = ds.length
  | [], _, e => by rw [show _ = [] from e]; rfl
  | _ :: _, _, ⟨v, r, e, x, y⟩ => by rw [e, List.length_cons, List.length_cons, RepL.length y]
theorem RepL.get : ∀ {ds : List D} {vs : List V} {i : Nat} {d : D}, RepL K G ds vs → ds[i]? = some d → ∃ v, vs[i]? = some v ∧ Rep K G d v
  | _ :: _, _, 0, _, ⟨v, r, e, x, y⟩, h => by cases h; exact ⟨v, by rw [e]; rfl, x⟩
  | _ :: _, _, i + 1, d, ⟨v, r, e, x, y⟩, h => by
    obtain ⟨w, h1, h2⟩ := RepL.get (i := i) (d := d) y (by simpa using h)
    exact ⟨w, by rw [e]; simpa using h1, h2⟩
theorem RepL.get' : ∀ {ds : List D} {vs : List V} {i : Nat} {v : V}, RepL K G ds vs → vs[i]? = some v → ∃ d, ds[i]? = some d ∧ Rep K G d v
  | [], _, i, v, e, h => by rw [show _ = [] from e] at h; simp at h
  | d :: _, _, 0, v, ⟨w, r, e, x, y⟩, h => by rw [e] at h; cases h; exact ⟨d, rfl, x⟩
  | _ :: _, _, i + 1, v, ⟨w, r, e, x, y⟩, h => by
    rw [e] at h
    obtain ⟨d, h1, h2⟩ := RepL.get' (i := i) (v := v) y (by simpa using h)
    exact ⟨d, by simpa using h1, h2⟩
theorem RepL.append : ∀ {ds es : List D} {vs ws : List V}, RepL K G ds vs → RepL K G es ws → RepL K G (ds ++ es) (vs ++ ws)
  | [], _, _, _, e, t => by rw [show _ = [] from e]; exact t
  | _ :: _, _, _, _, ⟨v, r, e, x, y⟩, t => by rw [e]; exact ⟨v, _, rfl, x, RepL.append y t⟩
theorem RepL.drop : ∀ {ds : List D} {vs : List V} (n : Nat), RepL K G ds vs → RepL K G (ds.drop n) (vs.drop n)
  | _, _, 0, h => h
  | [], _, n + 1, e => by rw [show _ = [] from e]; rfl
  | _ :: _, _, n + 1, ⟨v, r, e, x, y⟩ => by rw [e]; exact RepL.drop n y
theorem RepL.take : ∀ {ds : List D} {vs : List V} (n : Nat), RepL K G ds vs → RepL K G (ds.take n) (vs.take n)
  | _, _, 0, h => rfl
  | [], _, n + 1, e => by rw [show _ = [] from e]; rfl
  | _ :: _, _, n + 1, ⟨v, r, e, x, y⟩ => by rw [e]; exact ⟨v, _, rfl, x, RepL.take n y⟩
theorem RepL.set {d : D} {v : V} (h : Rep K G d v) : ∀ {ds : List D} {vs : List V} (n : Nat), RepL K G ds vs → RepL K G (ds.set n d) (vs.set n v)
  | [], _, n, e => by rw [show _ = [] from e]; rfl
  | _ :: _, _, 0, ⟨w, r, e, x, y⟩ => by rw [e]; exact ⟨v, r, rfl, h, y⟩
  | _ :: _, _, n + 1, ⟨w, r, e, x, y⟩ => by rw [e]; exact ⟨w, _, rfl, x, RepL.set h n y⟩
theorem RepL.reverse : ∀ {ds : List D} {vs : List V}, RepL K G ds vs → RepL K G ds.reverse vs.reverse
  | [], _, e => by rw [show _ = [] from e]; rfl
  | _ :: _, _, ⟨w, r, e, x, y⟩ => by rw [e, List.reverse_cons, List.reverse_cons]; exact RepL.append (RepL.reverse y) ⟨w, [], rfl, x, rfl⟩
theorem RepL.ints : ∀ {ns : List Int} {vs : List V}, RepL K G (ns.map D.int) vs → vs = ns.map V.int
  | [], _, e => e
  | _ :: _, _, ⟨v, r, e, x, y⟩ => by rw [e, show v = _ from x, RepL.ints y]; rfl
theorem RepL.of_ints : ∀ (ns : List Int), RepL K G (ns.map D.int) (ns.map V.int)
  | [] => rfl
  | n :: ns => ⟨_, _, rfl, rfl, RepL.of_ints ns⟩
theorem RepL.strs : ∀ {ns : List Str} {vs : List V}, RepL K G (ns.map D.str) vs → vs = ns.map V.str
  | [], _, e => e
  | _ :: _, _, ⟨v, r, e, x, y⟩ => by rw [e, show v = _ from x, RepL.strs y]; rfl
theorem RepL.of_strs : ∀ (ns : List Str), RepL K G (ns.map D.str) (ns.map V.str)
  | [] => rfl
  | n :: ns => ⟨_, _, rfl, rfl, RepL.of_strs ns⟩
theorem RepL.bls : ∀ {ns : List Bool} {vs : List V}, RepL K G (ns.map D.bl) vs → vs = ns.map V.bl
  | [], _, e => e
  | _ :: _, _, ⟨v, r, e, x, y⟩ => by rw [e, show v = _ from x, RepL.bls y]; rfl
theorem Rep.tup {a : Addr} {ds : List D} {vs : List V} (h : G a = some (.tup vs)) (r : RepL K G ds vs) : Rep K G (.tup ds) (.ref a) := ⟨a, vs, rfl, h, r⟩
theorem Rep.lst {a : Addr} {ds : List D} {vs : List V} (h : SqL K G a vs) (r : RepL K G ds vs) : Rep K G (.lst ds) (.ref a) := ⟨a, vs, rfl, h, r⟩
end

def D.isDct : D → Bool
  | .dct _ _ => true
  | _ => false
/-- a value whose outer list or dict is read in H, its items in G -/
def RepC (K : PySem.W.Frag) (H G : Hp) : D → V → Prop
  | .lst ds, v => ∃ a vs, v = .ref a ∧ SqL K H a vs ∧ RepL K G ds vs
  | .dct t kvs, v => ∃ a, v = .ref a ∧ ((t = false ∧ ∃ ps, Rd H a (.dK ps) ∧ kvs.map (·.1) = ps.map (fun p => keyD p.1) ∧ RepV K G kvs (ps.map (·.2))) ∨
      (t = true ∧ ∃ ps, Rd H a (.dT ps) ∧ kvs.map (·.1) = ps.map (fun p => keyT p.1) ∧ RepV K G kvs (ps.map (·.2))))
  | d, v => Rep K G d v
theorem Rep.c {K : PySem.W.Frag} {G H : Hp} (h : Sub G H) : ∀ {d : D} {v : V}, Rep K G d v → RepC K H G d v
  | .non, _, e => e
  | .bl _, _, e => e
  | .int _, _, e => e
  | .str _, _, e => e
  | .obj _, _, e => e
  | .tup _, _, e => e
  | .con _, _, e => e
  | .lst _, _, ⟨a, vs, e, s, r⟩ => ⟨a, vs, e, h.sql s, r⟩
  | .dct _ _, _, ⟨a, e, .inl ⟨t0, od, ps, s, k, r⟩⟩ => ⟨a, e, .inl ⟨t0, ps, .inr ⟨od, h a _ s⟩, k, r⟩⟩
  | .dct _ _, _, ⟨a, e, .inr ⟨t0, od, ps, s, k, r⟩⟩ => ⟨a, e, .inr ⟨t0, ps, .inr ⟨od, h a _ s⟩, k, r⟩⟩
theorem RepC.all {K : PySem.W.Frag} {G H : Hp} (h : Sub G H) : ∀ {d : D} {v : V}, RepC K H G d v → d.isDct = false → Rep K H d v
  | .non, _, e, _ => e
  | .bl _, _, e, _ => e
  | .int _, _, e, _ => e
  | .str _, _, e, _ => e
  | .obj _, _, e, _ => e
  | .tup _, _, e, _ => Rep.mono h e
  | .con _, _, e, _ => Rep.mono h e
  | .lst _, _, ⟨a, vs, e, s, r⟩, _ => ⟨a, vs, e, s, RepL.mono h r⟩
  | .dct _ _, _, _, n => by cases n
theorem RepC.mono {K : PySem.W.Frag} {G H G' H' : Hp} (h : Sub H H') (g : Sub G G') : ∀ {d : D} {v : V}, RepC K H G d v → RepC K H' G' d v
  | .non, _, e => e
  | .bl _, _, e => e
  | .int _, _, e => e
  | .str _, _, e => e
  | .obj _, _, e => e
  | .tup _, _, e => Rep.mono g e
  | .con _, _, e => Rep.mono g e
  | .lst _, _, ⟨a, vs, e, s, r⟩ => ⟨a, vs, e, h.sql s, RepL.mono g r⟩
  | .dct _ _, _, ⟨a, e, .inl ⟨t0, ps, s, k, r⟩⟩ => ⟨a, e, .inl ⟨t0, ps, h.rd s, k, RepV.mono g r⟩⟩
  | .dct _ _, _, ⟨a, e, .inr ⟨t0, ps, s, k, r⟩⟩ => ⟨a, e, .inr ⟨t0, ps, h.rd s, k, RepV.mono g r⟩⟩

/-- at a stands the list or dict d, that can be changed; its items in G -/
def OwnC (K : PySem.W.Frag) (H G : Hp) : D → Addr → Prop
  | .lst ds, a => ∃ vs, H a = some (.lst vs) ∧ RepL K G ds vs
  | .dct t kvs, a => (t = false ∧ ∃ ps, H a = some (.dK ps) ∧ kvs.map (·.1) = ps.map (fun p => keyD p.1) ∧ RepV K G kvs (ps.map (·.2))) ∨
      (t = true ∧ ∃ ps, H a = some (.dT ps) ∧ kvs.map (·.1) = ps.map (fun p => keyT p.1) ∧ RepV K G kvs (ps.map (·.2)))
  | _, _ => False
theorem OwnC.c {K : PySem.W.Frag} {H G : Hp} {d : D} {a : Addr} (h : OwnC K H G d a) : RepC K H G d (.ref a) := by
  cases d with
  | lst ds => obtain ⟨vs, e, r⟩ := h; exact ⟨a, vs, rfl, SqL.of e, r⟩
  | dct t kvs =>
    rcases h with ⟨t0, ps, e, k, r⟩ | ⟨t0, ps, e, k, r⟩
    · exact ⟨a, rfl, .inl ⟨t0, ps, .inl e, k, r⟩⟩
    · exact ⟨a, rfl, .inr ⟨t0, ps, .inl e, k, r⟩⟩
  | _ => exact h.elim
theorem OwnC.is {K : PySem.W.Frag} {H G : Hp} {d : D} {a : Addr} (h : OwnC K H G d a) : H a ≠ none := by
  cases d with
  | lst ds => obtain ⟨vs, e, r⟩ := h; rw [e]; simp
  | dct t kvs => rcases h with ⟨t0, ps, e, k, r⟩ | ⟨t0, ps, e, k, r⟩ <;> rw [e] <;> simp
  | _ => exact h.elim
theorem OwnC.mono' {K : PySem.W.Frag} {H H' G G' : Hp} {d : D} {a : Addr} (h : OwnC K H G d a) (e' : ∀ o, H a = some o → H' a = some o) (sg : Sub G G') : OwnC K H' G' d a := by
  cases d with
  | lst ds => obtain ⟨vs, e, r⟩ := h; exact ⟨vs, e' _ e, r.mono sg⟩
  | dct t kvs =>
    rcases h with ⟨t0, ps, e, k, r⟩ | ⟨t0, ps, e, k, r⟩
    · exact .inl ⟨t0, ps, e' _ e, k, r.mono sg⟩
    · exact .inr ⟨t0, ps, e' _ e, k, r.mono sg⟩
  | _ => exact h.elim
theorem OwnC.mono {K : PySem.W.Frag} {H H' G G' : Hp} {d : D} {a : Addr} (h : OwnC K H G d a) (sh : Sub H H') (sg : Sub G G') : OwnC K H' G' d a := h.mono' (fun o => sh a o) sg
theorem OwnC.put {K : PySem.W.Frag} {H G G' : Hp} {d : D} {a : Addr} (h : OwnC K H G d a) (nd : d.isDct = false) (sg : Sub G G') (e' : G' a = H a) : Rep K G' d (.ref a) := by
  cases d with
  | lst ds => obtain ⟨vs, e, r⟩ := h; exact ⟨a, vs, rfl, SqL.of (e'.trans e), r.mono sg⟩
  | dct t kvs => cases nd
  | _ => exact h.elim
/-- a dict that is locked is all men's -/
theorem OwnC.lock {K : PySem.W.Frag} {H G G' : Hp} {d : D} {a : Addr} (h : OwnC K H G d a) (nd : d.isDct = true) (sg : Sub G G') : ∃ u, H a = some u ∧ Mut (some u) ∧ ∀ od, G' a = some (.frz od u) → Rep K G' d (.ref a) := by
  cases d with
  | dct t kvs =>
    rcases h with ⟨t0, ps, e, k, r⟩ | ⟨t0, ps, e, k, r⟩
    · exact ⟨_, e, trivial, fun od q => ⟨a, rfl, .inl ⟨t0, od, ps, q, k, r.mono sg⟩⟩⟩
    · exact ⟨_, e, trivial, fun od q => ⟨a, rfl, .inr ⟨t0, od, ps, q, k, r.mono sg⟩⟩⟩
  | _ => cases nd
/-- things are locked, then P -/
inductive LockT (P : Hp → Prop) : Hp → Prop where
  | here {H : Hp} (h : P H) : LockT P H
  | lock {H : Hp} {d : Addr} {u : HO} (h : H d = some u) (mu : Mut (some u)) (k : ∀ od, LockT P (upd H d (.frz od u))) : LockT P H
theorem LockT.imp {P Q : Hp → Prop} {H : Hp} (h : LockT P H) (f : ∀ H, P H → Q H) : LockT Q H := by
  induction h with
  | here h => exact .here (f _ h)
  | lock h mu _ ih => exact .lock h mu ih
theorem LockT.bind {P Q : Hp → Prop} {H : Hp} (h : LockT P H) (f : ∀ H, P H → LockT Q H) : LockT Q H := by
  induction h with
  | here h => exact f _ h
  | lock h mu _ ih => exact .lock h mu ih
theorem LockT.inv {X : Cx} {pins : List (Addr × Obj)} {σ : L2.St} {s : Shared} {P : Hp → Prop} {H : Hp} (h : LockT P H) (I : Inv X pins σ H s) : ∃ H', Inv X pins σ H' s ∧ P H' := by
  induction h with
  | here h => exact ⟨_, I, h⟩
  | lock h mu _ ih =>
    obtain ⟨od, I1⟩ := I.lock h mu
    exact ih od I1
theorem _root_.L2.PE.lk {X : Cx} {e : Expr} {t t' : TE} (h : PE X e t) (f : ∀ σ H Q, t' σ H Q → LockT (fun H => t σ H Q) H) : PE X e t' := ⟨fun pins s σ H Q I q => by
  obtain ⟨H', I', q'⟩ := (f σ H Q q).inv I
  exact h.run pins s σ H' Q I' q'⟩
theorem _root_.L2.PE.lkP {X : Cx} {e : Expr} {t t' : TE} (h : PE X e t) (f : ∀ σ H Q, t' σ H Q → t σ H fun v H => LockT (Q v) H) : PE X e t' := ⟨fun pins s σ H Q I q =>
  thn (h.run pins s σ H _ I (f σ H Q q)) fun v s1 ⟨x, H1, I1, r, q⟩ => by
    obtain ⟨H2, I2, q2⟩ := q.inv I1
    exact ⟨x, H2, I2, r, q2⟩⟩
theorem _root_.L2.PS.lk {X : Cx} {e : Stmt} {t t' : TS} (h : PS X e t) (f : ∀ D σ H, t' D σ H → LockT (t D σ) H) : PS X e t' := ⟨fun pins s σ H D I q => by
  obtain ⟨H', I', q'⟩ := (f D σ H q).inv I
  exact h.run pins s σ H' D I' q'⟩
theorem _root_.L2.PSs.lk {X : Cx} {e : List Stmt} {t t' : TS} (h : PSs X e t) (f : ∀ D σ H, t' D σ H → LockT (t D σ) H) : PSs X e t' := ⟨fun pins s σ H D I q => by
  obtain ⟨H', I', q'⟩ := (f D σ H q).inv I
  exact h.run pins s σ H' D I' q'⟩
/-- .. what is given back is locked -/
theorem _root_.L2.PSs.lkR {X : Cx} {e : List Stmt} {t t' : TS} (h : PSs X e t) (f : ∀ D σ H, t' D σ H → t { D with rt := fun v H => LockT (D.rt v) H } σ H) : PSs X e t' := ⟨fun pins s σ H D I q =>
  thn (h.run pins s σ H _ I (f D σ H q)) fun fl s1 q => by
    cases fl with
    | next => exact q
    | brk => exact q
    | cont => exact q
    | ret v =>
      obtain ⟨x, σ', H', I2, r, q⟩ := q
      obtain ⟨H2, I3, q2⟩ := q.inv I2
      exact ⟨x, σ', H2, I3, r, q2⟩⟩

/-- where nothing stood, or a tuple -/
def Fr1 (H : Hp) (b : Addr) : Prop := H b = none ∨ ∃ vs, H b = some (.tup vs)
theorem Fr1.back {H H1 : Hp} {b : Addr} (s : Sub H H1) (h : Fr1 H1 b) : Fr1 H b := by
  cases q : H b with
  | none => exact .inl q
  | some o =>
    have := s _ _ q
    rcases h with h | ⟨vs, h⟩
    · rw [h] at this; cases this
    · rw [h] at this; cases this; exact .inr ⟨vs, q⟩
theorem OwnC.nfr {K : PySem.W.Frag} {H G : Hp} {d : D} {a : Addr} (h : OwnC K H G d a) : ¬ Fr1 H a := by
  intro z
  cases d with
  | lst ds =>
    obtain ⟨vs, e, r⟩ := h
    rcases z with z | ⟨ws, z⟩ <;> rw [e] at z <;> cases z
  | dct t kvs => rcases h with ⟨t0, ps, e, k, r⟩ | ⟨t0, ps, e, k, r⟩ <;> rcases z with z | ⟨ws, z⟩ <;> rw [e] at z <;> cases z
  | _ => exact h.elim
/-- behind a step: H to H', the part G to G' -/
structure Ext (H G H' G' : Hp) : Prop where
  hh : Sub H H'
  gg : Sub G G'
  gh : Sub G' H'
  new : ∀ b, G' b ≠ none → G b ≠ none ∨ Fr1 H b
theorem Ext.refl {H G : Hp} (g : Sub G H) : Ext H G H G := ⟨Sub.refl H, Sub.refl G, g, fun _ h => .inl h⟩
theorem Ext.trans {H G H1 G1 H2 G2 : Hp} (a : Ext H G H1 G1) (b : Ext H1 G1 H2 G2) : Ext H G H2 G2 :=
  ⟨a.hh.trans b.hh, a.gg.trans b.gg, b.gh, fun c h => by
    rcases b.new c h with z | z
    · exact a.new c z
    · exact .inr (z.back a.hh)⟩
/-- a new object that all may know -/
theorem Ext.laid {H G : Hp} {p : Addr} {o : HO} (g : Sub G H) (n : H p = none) : Ext H G (upd H p o) (upd G p o) :=
  ⟨Sub.upd n, Sub.upd (g.free n), fun b u e => by
    by_cases hb : b = p
    · subst hb; rw [upd_same] at e ⊢; exact e
    · rw [upd_ne hb] at e ⊢; exact g _ _ e, fun b h => by
    by_cases hb : b = p
    · subst hb; exact .inr (.inl n)
    · rw [upd_ne hb] at h; exact .inl h⟩

/-! ### exceptions -/
/-- which class value a class's name has; its fields' values -/
structure ExcKit where
  mg : Str → Option Value
def IsExc (K : PySem.W.Frag) (mg : Str → Option Value) (c : String) (fs : List D) (cls : Value) (o : Option Addr) (H : Hp) : Prop :=
  mg (Str.ofString c) = some cls ∧ match o with
    | none => fs = []
    | some d => fs ≠ [] ∧ ∃ ps, H d = some (.xd ps) ∧ RepL K H fs (ps.map (·.2))

/-! ### names -/
abbrev Sl := Option (D × Bool)
abbrev Env := List Sl
/-- the names' values, as a reckoning sees them: those at A may be kept -/
structure EnvG (K : PySem.W.Frag) (A : Nat → Prop) (σ : L2.St) (e : Env) (H G : Hp) : Prop where
  sub : Sub G H
  len : σ.length = e.length
  val : ∀ i d o, e[i]? = some (some (d, o)) → ∃ v, σ[i]? = some (some v) ∧ (A i ∨ o = false → Rep K G d v) ∧ RepC K H G d v
theorem EnvG.ext {K : PySem.W.Frag} {A : Nat → Prop} {σ : L2.St} {e : Env} {H G H' G' : Hp} (h : EnvG K A σ e H G) (x : Ext H G H' G') : EnvG K A σ e H' G' :=
  ⟨x.gh, h.len, fun i d o hi => let ⟨v, h1, h2, h3⟩ := h.val i d o hi; ⟨v, h1, fun z => (h2 z).mono x.gg, h3.mono x.hh x.gg⟩⟩

/-- what is wanted behind a reckoning -/
def PostG (K : PySem.W.Frag) (mg : Str → Option Value) (W : Value → Option Addr → Hp → Prop) (H G : Hp) {α : Type} (r : Res α) (R : α → Hp → Hp → Prop) : Prop := match r with
  | .ok a => ∀ H' G', Ext H G H' G' → R a H' G'
  | .exc c fs => ∀ cls o H', Sub H H' → IsExc K mg c fs cls o H' → W cls o H'
  | .bad => False
section
variable {K : PySem.W.Frag} {mg : Str → Option Value} {W : Value → Option Addr → Hp → Prop} {H G H' G' : Hp} {α β : Type}
theorem PostG.ext {r : Res α} {R : α → Hp → Hp → Prop} (h : PostG K mg W H G r R) (x : Ext H G H' G') : PostG K mg W H' G' r R := by
  cases r with
  | ok a => exact fun H2 G2 y => h H2 G2 (x.trans y)
  | exc c fs => exact fun cls o H2 y z => h cls o H2 (x.hh.trans y) z
  | bad => exact h
theorem PostG.imp {r : Res α} {R R' : α → Hp → Hp → Prop} (h : PostG K mg W H G r R) (f : ∀ a H' G', Ext H G H' G' → R a H' G' → R' a H' G') : PostG K mg W H G r R' := by
  cases r with
  | ok a => exact fun H2 G2 y => f a H2 G2 y (h H2 G2 y)
  | exc c fs => exact h
  | bad => exact h
theorem PostG.split {r : Res α} {f : α → Res β} {R : β → Hp → Hp → Prop} (h : PostG K mg W H G (r.bind f) R) : PostG K mg W H G r fun a H1 G1 => PostG K mg W H1 G1 (f a) R := by
  cases r with
  | ok a => exact fun H2 G2 y => PostG.ext (r := f a) h y
  | exc c fs => exact h
  | bad => exact h
theorem PostG.val {d : D} {Q : VK} (h : PostG K mg W H G (Res.ok d) fun d H' G' => ∀ v, Rep K G' d v → Q v H') (g : Sub G H) {v : V} (r : Rep K G d v) : Q v H := h H G (Ext.refl g) v r
theorem PostG.here {a : α} {R : α → Hp → Hp → Prop} (h : PostG K mg W H G (.ok a) R) (g : Sub G H) : R a H G := h H G (Ext.refl g)
end

theorem _root_.L2.PE.imp {X : Cx} {e : Expr} {t t' : TE} (h : PE X e t) (f : ∀ σ H Q, t' σ H Q → t σ H Q) : PE X e t' := ⟨fun pins s σ H Q I q => h.run pins s σ H Q I (f σ H Q q)⟩
theorem _root_.L2.PA.imp {X : Cx} {e : List Expr} {t t' : TA} (h : PA X e t) (f : ∀ σ H Q, t' σ H Q → t σ H Q) : PA X e t' := ⟨fun pos pins s σ H Q I q => h.run pos pins s σ H Q I (f σ H Q q)⟩
theorem _root_.L2.PT.imp {X : Cx} {e : Expr} {t t' : TT} (h : PT X e t) (f : ∀ σ H Q, t' σ H Q → t σ H Q) : PT X e t' := ⟨fun pins s σ H Q I q => h.run pins s σ H Q I (f σ H Q q)⟩
theorem _root_.L2.PW.imp {X : Cx} {e : Expr} {t t' : TT} (h : PW X e t) (f : ∀ σ H Q, t' σ H Q → t σ H Q) : PW X e t' := ⟨fun wh pins s σ H Q I q => h.run wh pins s σ H Q I (f σ H Q q)⟩
theorem _root_.L2.PS.imp {X : Cx} {e : Stmt} {t t' : TS} (h : PS X e t) (f : ∀ D σ H, t' D σ H → t D σ H) : PS X e t' := ⟨fun pins s σ H D I q => h.run pins s σ H D I (f D σ H q)⟩
theorem _root_.L2.PSs.imp {X : Cx} {e : List Stmt} {t t' : TS} (h : PSs X e t) (f : ∀ D σ H, t' D σ H → t D σ H) : PSs X e t' := ⟨fun pins s σ H D I q => h.run pins s σ H D I (f D σ H q)⟩
theorem _root_.L2.PI.imp {X : Cx} {tg e : Expr} {t t' : TI} (h : PI X tg e t) (f : ∀ σ H Q, t' σ H Q → t σ H Q) : PI X tg e t' := ⟨fun pins s σ H Q I q => h.run pins s σ H Q I (f σ H Q q)⟩

/-! ### the readings -/
section
variable (K : PySem.W.Frag) (mg : Str → Option Value) (W : WX) (A : Nat → Prop)
/-- a reckoning's value, kept by whoever has it -/
def tD (f : Env → Res D) : TE := fun σ H Q => ∃ e G, EnvG K A σ e H G ∧ PostG K mg (fun c o H' => W c o σ H') H G (f e) fun d H' G' => ∀ v, Rep K G' d v → Q v H'
/-- .. read alone -/
def tR (f : Env → Res D) : TE := fun σ H Q => ∃ e G, EnvG K A σ e H G ∧ PostG K mg (fun c o H' => W c o σ H') H G (f e) fun d H' G' => ∀ v, RepC K H' G' d v → Q v H'
/-- .. new, and of none else -/
def tF (f : Env → Res D) : TE := fun σ H Q => ∃ e G, EnvG K A σ e H G ∧ PostG K mg (fun c o H' => W c o σ H') H G (f e) fun d H' G' => ∀ a, H a = none → G' a = none → OwnC K H' G' d a → Q (.ref a) H'
def tDs (f : Env → Res (List D)) : TA := fun σ H Q => ∃ e G, EnvG K A σ e H G ∧ PostG K mg (fun c o H' => W c o σ H') H G (f e) fun ds H' G' => ∀ vs, RepL K G' ds vs → Q vs H'
def tT (f : Env → Res Bool) : TT := fun σ H Q => ∃ e G, EnvG K A σ e H G ∧ PostG K mg (fun c o H' => W c o σ H') H G (f e) fun b H' G' => Q b H'
end
section
variable {X : Cx} {W : WX} {A : Nat → Prop}
abbrev DE (X : Cx) (W : WX) (A : Nat → Prop) (ex : Expr) (f : Env → Res D) : Prop := PE X ex (tD X.K X.mg W A f)
abbrev DR (X : Cx) (W : WX) (A : Nat → Prop) (ex : Expr) (f : Env → Res D) : Prop := PE X ex (tR X.K X.mg W A f)
abbrev DF (X : Cx) (W : WX) (A : Nat → Prop) (ex : Expr) (f : Env → Res D) : Prop := PE X ex (tF X.K X.mg W A f)
abbrev DA (X : Cx) (W : WX) (A : Nat → Prop) (es : List Expr) (f : Env → Res (List D)) : Prop := PA X es (tDs X.K X.mg W A f)
abbrev DT (X : Cx) (W : WX) (A : Nat → Prop) (ex : Expr) (f : Env → Res Bool) : Prop := PT X ex (tT X.K X.mg W A f)
abbrev DW (X : Cx) (W : WX) (A : Nat → Prop) (ex : Expr) (f : Env → Res Bool) : Prop := PW X ex (tT X.K X.mg W A f)
/-- kept, so read -/
theorem dr {ex : Expr} {f : Env → Res D} (h : DE X W A ex f) : DR X W A ex f :=
  h.imp fun σ H Q ⟨e, G, E, p⟩ => ⟨e, G, E, p.imp fun d H' G' x q v r => q v (r.c x.gh)⟩
/-- new, so locked and all men's -/
theorem own_lock {K : PySem.W.Frag} {H G H' G' : Hp} {d : D} {a : Addr} (x : Ext H G H' G') (ha : H a = none) (ga : G' a = none) (rc : OwnC K H' G' d a) : LockT (fun H2 => ∃ G2, Ext H G H2 G2 ∧ Rep K G2 d (.ref a)) H' := by
  cases hd : d.isDct with
  | false =>
    have sg : Sub G' (fun b => if b = a then H' b else G' b) := fun b o q => by
      show (if b = a then H' b else G' b) = some o
      by_cases hb : b = a
      · subst hb; rw [ga] at q; cases q
      · rw [if_neg hb]; exact q
    have gaa : (fun b => if b = a then H' b else G' b : Hp) a = H' a := if_pos rfl
    refine .here ⟨fun b => if b = a then H' b else G' b, ⟨x.hh, x.gg.trans sg, fun b o q => ?_, fun b q => ?_⟩, rc.put hd sg gaa⟩
    · have q' : (if b = a then H' b else G' b) = some o := q
      by_cases hb : b = a
      · rw [if_pos hb] at q'; exact q'
      · rw [if_neg hb] at q'; exact x.gh _ _ q'
    · have q' : (if b = a then H' b else G' b) ≠ none := q
      by_cases hb : b = a
      · subst hb; exact .inr (.inl ha)
      · rw [if_neg hb] at q'; exact x.new b q'
  | true =>
    have sg : ∀ od u, Sub G' (upd G' a (.frz od u)) := fun od u => Sub.upd ga
    obtain ⟨u, hu, mu, _⟩ := rc.lock hd (Sub.refl G')
    refine .lock hu mu fun od => .here ⟨upd G' a (.frz od u), ⟨fun b o q => ?_, x.gg.trans (sg od u), fun b o q => ?_, fun b q => ?_⟩, ?_⟩
    · have nb : b ≠ a := fun z => by rw [z, ha] at q; cases q
      rw [upd_ne nb]; exact x.hh b o q
    · by_cases hb : b = a
      · subst hb; rw [upd_same] at q ⊢; exact q
      · rw [upd_ne hb] at q ⊢; exact x.gh b o q
    · by_cases hb : b = a
      · subst hb; exact .inr (.inl ha)
      · rw [upd_ne hb] at q; exact x.new b q
    · obtain ⟨u', hu', _, k⟩ := rc.lock hd (sg od u)
      rw [hu] at hu'; cases hu'
      exact k od upd_same
theorem own_share {K : PySem.W.Frag} {H G H' G' : Hp} {d : D} {a : Addr} (nd : d.isDct = false) (x : Ext H G H' G') (ha : H a = none) (ga : G' a = none) (rc : OwnC K H' G' d a) : ∃ G2, Ext H G H' G2 ∧ Rep K G2 d (.ref a) := by
  have sg : Sub G' (fun b => if b = a then H' b else G' b) := fun b o q => by
    show (if b = a then H' b else G' b) = some o
    by_cases hb : b = a
    · subst hb; rw [ga] at q; cases q
    · rw [if_neg hb]; exact q
  have gaa : (fun b => if b = a then H' b else G' b : Hp) a = H' a := if_pos rfl
  refine ⟨fun b => if b = a then H' b else G' b, ⟨x.hh, x.gg.trans sg, fun b o q => ?_, fun b q => ?_⟩, rc.put nd sg gaa⟩
  · have q' : (if b = a then H' b else G' b) = some o := q
    by_cases hb : b = a
    · rw [if_pos hb] at q'; exact q'
    · rw [if_neg hb] at q'; exact x.gh _ _ q'
  · have q' : (if b = a then H' b else G' b) ≠ none := q
    by_cases hb : b = a
    · subst hb; exact .inr (.inl ha)
    · rw [if_neg hb] at q'; exact x.new b q'
/-- new, so kept -/
theorem de_of {ex : Expr} {f : Env → Res D} (h : DF X W A ex f) : DE X W A ex f :=
  h.lkP fun σ H Q ⟨e, G, E, p⟩ => ⟨e, G, E, by
    cases hr : f e with
    | exc c fs => rw [hr] at p; exact p
    | bad => rw [hr] at p; exact p
    | ok d =>
      rw [hr] at p
      intro H' G' x a ha ga rc
      exact (own_lock x ha ga rc).imp fun H2 ⟨G2, y, r⟩ => p H2 G2 y (.ref a) r⟩

/-! ### names, constants -/
def eVar (i : Nat) : Env → Res D := fun e => match e[i]? with
  | some (some (d, _)) => .ok d
  | _ => .bad
def eC (d : D) : Env → Res D := fun _ => .ok d
theorem de_var {i : Nat} {x : Str} {pos : Pos} (hN : X.N[i]? = some x) (hv : Vis X.env.scope x) (hA : A i) (hd : (x == ("__debug__" : Str)) = false := by decide) (hcd : (x == ("__classdict__" : Str)) = false := by decide) : DE X W A (.Name x pos) (eVar i) :=
  (pe_var hN hv hd hcd).imp fun σ H Q ⟨e, G, E, p⟩ => by
    unfold eVar at p
    cases h : e[i]? with
    | none => rw [h] at p; exact p.elim
    | some s => cases s with
      | none => rw [h] at p; exact p.elim
      | some z =>
        obtain ⟨d, o⟩ := z
        rw [h] at p
        obtain ⟨v, h1, h2, h3⟩ := E.val i d o h
        exact ⟨v, h1, p.here E.sub v (h2 (.inl hA))⟩
/-- a name that is read alone -/
theorem dr_var {i : Nat} {x : Str} {pos : Pos} (hN : X.N[i]? = some x) (hv : Vis X.env.scope x) (hd : (x == ("__debug__" : Str)) = false := by decide) (hcd : (x == ("__classdict__" : Str)) = false := by decide) : DR X W A (.Name x pos) (eVar i) :=
  (pe_var hN hv hd hcd).imp fun σ H Q ⟨e, G, E, p⟩ => by
    unfold eVar at p
    cases h : e[i]? with
    | none => rw [h] at p; exact p.elim
    | some s => cases s with
      | none => rw [h] at p; exact p.elim
      | some z =>
        obtain ⟨d, o⟩ := z
        rw [h] at p
        obtain ⟨v, h1, h2, h3⟩ := E.val i d o h
        exact ⟨v, h1, p.here E.sub v h3⟩
theorem de_const {ex : Expr} {v : V} {d : D} (h : PE X ex (tC v)) (r : ∀ G, Rep X.K G d v) : DE X W A ex (eC d) :=
  h.imp fun σ H Q ⟨e, G, E, p⟩ => p.here E.sub v (r G)
theorem de_int {i j pos} : DE X W A (.Constant (.int i) j pos) (eC (.int i)) := de_const pe_int fun _ => rfl
theorem de_bl {b j pos} : DE X W A (.Constant (.bool b) j pos) (eC (.bl b)) := de_const pe_bl fun _ => rfl
theorem de_non {j pos} : DE X W A (.Constant .none j pos) (eC .non) := de_const pe_non fun _ => rfl
theorem de_str {x j pos} : DE X W A (.Constant (.str x) j pos) (eC (.str x)) := de_const pe_str fun _ => rfl
/-- a module's constant -/
theorem de_glob {x : Str} {v : V} {u : Value} {d : D} {pos : Pos} (hg : Gl X x) (hm : X.mg x = some u) (r : RelV v u) (q : ∀ G, Rep X.K G d v) (hd : (x == ("__debug__" : Str)) = false := by decide) : DE X W A (.Name x pos) (eC d) :=
  de_const (pe_glob hg hm r hd) q

/-! ### operators on two values -/
def eOp (g : D → D → Res D) (fa fb : Env → Res D) : Env → Res D := fun e => (fa e).bind fun x => (fb e).bind fun y => g x y
/-- the operation f does on data what g says -/
def OpD (X : Cx) (W : WX) (f : Value → Value → Sem Value) (g : D → D → Res D) : Prop :=
  ∃ r, OpR X f r ∧ ∀ (σ : L2.St) (H G : Hp) (x y : V) (dx dy : D) (Q : VK), Sub G H → RepC X.K H G dx x → RepC X.K H G dy y →
    PostG X.K X.mg (fun c o H' => W c o σ H') H G (g dx dy) (fun d H' G' => ∀ v, Rep X.K G' d v → Q v H') → r x y H Q
theorem op_two {r : R2} {g : D → D → Res D} {fa fb : Env → Res D} {ta tb : TE} (hta : ta = tR X.K X.mg W A fa) (htb : tb = tR X.K X.mg W A fb)
    (h : ∀ (σ : L2.St) (H G : Hp) (x y : V) (dx dy : D) (Q : VK), Sub G H → RepC X.K H G dx x → RepC X.K H G dy y →
      PostG X.K X.mg (fun c o H' => W c o σ H') H G (g dx dy) (fun d H' G' => ∀ v, Rep X.K G' d v → Q v H') → r x y H Q) (σ : L2.St) (H : Hp) (Q : VK) (q : tD X.K X.mg W A (eOp g fa fb) σ H Q) : tOp r ta tb σ H Q := by
  subst hta htb
  obtain ⟨e, G, E, p⟩ := q
  refine ⟨e, G, E, p.split.imp fun dx H1 G1 x1 p1 v rv => ?_⟩
  refine ⟨e, G1, E.ext x1, p1.split.imp fun dy H2 G2 x2 p2 u ru => ?_⟩
  exact h σ H2 G2 v u dx dy Q x2.gh (rv.mono x2.hh x2.gg) ru p2
theorem de_bin {op : Operator} {a b : Expr} {fa fb : Env → Res D} {g : D → D → Res D} {pos : Pos} (ho : OpD X W (binaryOp op) g) (ha : DR X W A a fa) (hb : DR X W A b fb) : DE X W A (.BinOp a op b pos) (eOp g fa fb) := by
  obtain ⟨r, h1, h2⟩ := ho
  exact (pe_op h1 ha hb).imp (op_two rfl rfl h2)
theorem de_cmp {op : CmpOp} {a b : Expr} {fa fb : Env → Res D} {g : D → D → Res D} {pos : Pos} (ho : OpD X W (compareOp op) g) (ha : DR X W A a fa) (hb : DR X W A b fb) (hm : behindInMarks op b = false) : DE X W A (.Compare a [op] [b] pos) (eOp g fa fb) := by
  obtain ⟨r, h1, h2⟩ := ho
  exact (pe_cmpR h1 ha hb hm).imp (op_two rfl rfl h2)
end
end DL

namespace DL
open PySem PySem.Spec PyProof.Rows L2
open PySem.Builtin.Int (intBits)

/-! ### whole numbers -/
def big : Nat := 130000000
theorem mul_ok {i j : Int} (h : intBits i + intBits j ≤ big) : IntMulOk i j := by
  have e : bitsLine = 134217728 := by decide
  unfold IntMulOk
  intro z
  rw [Bool.and_eq_true] at z
  have z2 := z.2
  unfold Builtin.Int.intTooBig at z2
  have z3 := of_decide_eq_true z2
  rw [e] at z3
  have hb : big = 130000000 := rfl
  omega
section
variable {X : Cx} {W : WX}
/-- a rule for two values, where it is told of data -/
theorem OpD.or {f : Value → Value → Sem Value} {g1 g2 : D → D → Res D} (c : D → D → Bool) (h1 : OpD X W f g1) (h2 : OpD X W f g2) : OpD X W f fun x y => if c x y = true then g1 x y else g2 x y := by
  obtain ⟨r1, o1, q1⟩ := h1
  obtain ⟨r2, o2, q2⟩ := h2
  refine ⟨_, OpR.or o1 o2, fun σ H G x y dx dy Q sg rx ry p => ?_⟩
  dsimp only at p
  by_cases hc : c dx dy = true
  · rw [if_pos hc] at p; exact .inl (q1 σ H G x y dx dy Q sg rx ry p)
  · rw [if_neg hc] at p; exact .inr (q2 σ H G x y dx dy Q sg rx ry p)
theorem OpD.congr {f : Value → Value → Sem Value} {g1 g2 : D → D → Res D} (h : OpD X W f g1) (e : ∀ x y, g2 x y = .bad ∨ g2 x y = g1 x y) : OpD X W f g2 := by
  obtain ⟨r, o, q⟩ := h
  refine ⟨r, o, fun σ H G x y dx dy Q sg rx ry p => ?_⟩
  rcases e dx dy with z | z
  · rw [z] at p; exact p.elim
  · rw [z] at p; exact q σ H G x y dx dy Q sg rx ry p

/-- ints in, an int out -/
def gI (C : Int → Int → Bool) (g : Int → Int → Int) : D → D → Res D
  | .int i, .int j => if C i j = true then .ok (.int (g i j)) else .bad
  | _, _ => .bad
def gB (g : Int → Int → Bool) : D → D → Res D
  | .int i, .int j => .ok (.bl (g i j))
  | _, _ => .bad
theorem od_I {f : Value → Value → Sem Value} {C : Int → Int → Bool} {g : Int → Int → Int}
    (rule : ∀ (i j : Int) (t u : Tok) (s : Shared) (Q : Value → Shared → Prop) (E : Value → Shared → Prop), C i j = true → Q (.int (g i j) s.toks) { s with toks := s.toks + 1 } → wpAny (model X.prog X.w) X.A (f (.int i t) (.int j u)) Q E s) :
    OpD X W f (gI C g) := by
  refine ⟨rI (fun i j => C i j = true) fun i j => .int (g i j), opI rule, fun σ H G x y dx dy Q sg rx ry p => ?_⟩
  cases dx with
  | int i =>
    cases dy with
    | int j =>
      have rx' : x = .int i := rx
      have ry' : y = .int j := ry
      dsimp only [gI] at p
      by_cases hc : C i j = true
      · rw [if_pos hc] at p
        exact ⟨i, j, rx', ry', hc, p.here sg _ rfl⟩
      · rw [if_neg hc] at p
        exact p.elim
    | _ => exact (show False from p).elim
  | _ => cases dy <;> exact (show False from p).elim
theorem od_B {f : Value → Value → Sem Value} {g : Int → Int → Bool} (o : OpR X f (rI0 fun i j => .bl (g i j))) : OpD X W f (gB g) := by
  refine ⟨_, o, fun σ H G x y dx dy Q sg rx ry p => ?_⟩
  cases dx with
  | int i =>
    cases dy with
    | int j => exact ⟨i, j, rx, ry, PostG.val (d := .bl (g i j)) p sg rfl⟩
    | _ => exact (show False from p).elim
  | _ => cases dy <;> exact (show False from p).elim

def cT : Int → Int → Bool := fun _ _ => true
def cMul : Int → Int → Bool := fun i j => decide (intBits i + intBits j ≤ big)
def cDiv : Int → Int → Bool := fun _ j => decide (j ≠ 0 ∧ j.natAbs.log2 < 9000)
def cMod : Int → Int → Bool := fun _ j => decide (j ≠ 0)
def cPow : Int → Int → Bool := fun i j => decide (0 ≤ j ∧ (intBits i : Int) * j ≤ 2 ^ 27)
def cShr : Int → Int → Bool := fun _ j => decide (0 ≤ j)
theorem od_subI : OpD X W (binaryOp .Sub) (gI cT fun i j => i - j) := od_I fun _ _ _ _ _ _ _ _ q => sub_int q
theorem od_addI : OpD X W (binaryOp .Add) (gI cT fun i j => i + j) := od_I fun _ _ _ _ _ _ _ _ q => add_int q
theorem od_mulI : OpD X W (binaryOp .Mult) (gI cMul fun i j => i * j) := od_I fun _ _ _ _ _ _ _ c q => mul_int q (mul_ok (of_decide_eq_true c))
theorem od_divI : OpD X W (binaryOp .FloorDiv) (gI cDiv fun i j => i.fdiv j) := od_I fun _ _ _ _ _ _ _ c q =>
  have c' := of_decide_eq_true c
  floordiv_int c'.1 q (.inl (PyProof.noPylong_of_log2 c'.2))
theorem od_modI : OpD X W (binaryOp .Mod) (gI cMod fun i j => i.fmod j) := od_I fun _ _ _ _ _ _ _ c q => mod_int' (of_decide_eq_true c) q
theorem od_powI : OpD X W (binaryOp .Pow) (gI cPow fun i j => i ^ j.toNat) := od_I fun _ _ _ _ _ _ _ c q =>
  have c' := of_decide_eq_true c
  pow_int c'.1 c'.2 q
theorem od_shrI : OpD X W (binaryOp .RShift) (gI cShr fun i j => i / 2 ^ j.toNat) := od_I fun i j _ _ _ _ _ c q =>
  rshift_int (of_decide_eq_true c) (by rw [Int.fdiv_eq_ediv_of_nonneg i (two_pow_nn _)]; exact q)

/-! ### + of texts, tuples, lists -/
def dAdd : D → D → Res D
  | .int i, .int j => .ok (.int (i + j))
  | .str a, .str b => if a.length + b.length ≤ sizeLine then .ok (.str (a ++ b)) else .bad
  | .tup a, .tup b => if a.length + b.length ≤ sizeLine then .ok (.tup (a ++ b)) else .bad
  | .lst a, .lst b => if a.length + b.length ≤ sizeLine then .ok (.lst (a ++ b)) else .bad
  | _, _ => .bad
/-- a + b of lists that are read -/
def rCatR (K : PySem.W.Frag) : R2 := fun x y H Q => ∃ l b xs zs, x = .ref l ∧ y = .ref b ∧ SqL K H l xs ∧ SqL K H b zs ∧ xs.length + zs.length ≤ sizeLine ∧ ∀ p, H p = none → Q (.ref p) (upd H p (.lst (xs ++ zs)))
theorem op_catR : OpR X (binaryOp .Add) (rCatR X.K) := by
  intro pins s σ H x y v u Q I rx ry h
  obtain ⟨l, b, xs, zs, rfl, rfl, hH, hB, hz, q⟩ := h
  cases rx
  cases ry
  obtain ⟨its, r, ⟨⟨cls, dd, data, sl⟩, n, ho, hc, hdd, hd⟩, _⟩ := I.list hH
  obtain ⟨its2, r2, ⟨⟨cls2, dd2, data2, sl2⟩, n2, ho2, hc2, hdd2, hd2⟩, _⟩ := I.list hB
  simp only at hc hd hc2 hd2
  subst hc hd hc2 hd2
  have l1 := r.length
  have l2 := r2.length
  have e : its.toArray ++ its2.toArray = (its ++ its2).toArray := by simp
  refine concat_meets ⟨_, ho, rfl⟩ ⟨_, ho2, rfl⟩ noFill_list_add seq_list_add PySem.F.slot_list_add PySem.F.entry_list_add (PySem.F.args_list_add_2 _ _) (list_addW l b its.toArray its2.toArray n n2 dd dd2 sl sl2 (by simp; omega)) ⟨ho, ho2, ?_⟩
  rw [e]
  exact ⟨.ref _, _, I.lnew (t' := s.toks) (r.append r2) (by rw [List.length_append]; omega), rfl, q _ I.fresh⟩
theorem op_addS' : OpR X (binaryOp .Add) (fun x y H Q => ∃ i j, x = .str i ∧ y = .str j ∧ i.length + j.length ≤ sizeLine ∧ Q (.str (i ++ j)) H) := op_add_str
theorem od_add : OpD X W (binaryOp .Add) dAdd := by
  refine ⟨_, OpR.or op_add (OpR.or op_addS' (OpR.or op_catA op_catR)), fun σ H G x y dx dy Q sg rx ry p => ?_⟩
  cases dx with
  | int i =>
    cases dy with
    | int j => exact .inl ⟨i, j, rx, ry, PostG.val (d := .int (i + j)) p sg rfl⟩
    | _ => exact (show False from p).elim
  | str i =>
    cases dy with
    | str j =>
      dsimp only [dAdd] at p
      by_cases hc : i.length + j.length ≤ sizeLine
      · rw [if_pos hc] at p
        exact .inr (.inl ⟨i, j, rx, ry, hc, p.here sg _ rfl⟩)
      · rw [if_neg hc] at p; exact p.elim
    | _ => exact (show False from p).elim
  | tup i =>
    cases dy with
    | tup j =>
      dsimp only [dAdd] at p
      by_cases hc : i.length + j.length ≤ sizeLine
      · rw [if_pos hc] at p
        obtain ⟨a, vs, e1, s1, r1⟩ := (show Rep X.K G (.tup i) x from rx)
        obtain ⟨b, ws, e2, s2, r2⟩ := (show Rep X.K G (.tup j) y from ry)
        refine .inr (.inr (.inl ⟨a, b, vs, ws, e1, e2, sg.pt s1, sg.pt s2, by rw [r1.length, r2.length]; exact hc, fun z => ?_, fun z1 z2 => ?_, fun z1 z2 q hq => ?_⟩))
        · subst z
          refine p.here sg _ ⟨b, ws, rfl, s2, ?_⟩
          cases i with
          | nil => exact r2
          | cons d ds => obtain ⟨_, _, e, _⟩ := r1; cases e
        · subst z2
          refine p.here sg _ ⟨a, vs, rfl, s1, ?_⟩
          cases j with
          | nil => rw [List.append_nil]; exact r1
          | cons d ds => obtain ⟨_, _, e, _⟩ := r2; cases e
        · exact p _ _ (Ext.laid sg hq) _ ⟨q, _, rfl, upd_same, (r1.append r2).mono (Sub.upd (sg.free hq))⟩
      · rw [if_neg hc] at p; exact p.elim
    | _ => exact (show False from p).elim
  | lst i =>
    cases dy with
    | lst j =>
      dsimp only [dAdd] at p
      by_cases hc : i.length + j.length ≤ sizeLine
      · rw [if_pos hc] at p
        obtain ⟨a, vs, e1, s1, r1⟩ := rx
        obtain ⟨b, ws, e2, s2, r2⟩ := ry
        refine .inr (.inr (.inr ⟨a, b, vs, ws, e1, e2, s1, s2, by rw [r1.length, r2.length]; exact hc, fun q hq => ?_⟩))
        exact p _ _ (Ext.laid sg hq) _ ⟨q, _, rfl, SqL.of upd_same, (r1.append r2).mono (Sub.upd (sg.free hq))⟩
      · rw [if_neg hc] at p; exact p.elim
    | _ => exact (show False from p).elim
  | _ => exact (show False from p).elim

/-! ### * -/
def dMul : D → D → Res D
  | .int i, .int j => if intBits i + intBits j ≤ big then .ok (.int (i * j)) else .bad
  | _, _ => .bad
theorem od_mul : OpD X W (binaryOp .Mult) dMul := od_mulI.congr fun x y => by
  cases x <;> cases y <;> first
    | exact .inl rfl
    | exact .inr (by simp [dMul, gI, cMul])
def dSub : D → D → Res D
  | .int i, .int j => .ok (.int (i - j))
  | _, _ => .bad
theorem od_sub : OpD X W (binaryOp .Sub) dSub := od_subI.congr fun x y => by
  cases x <;> cases y <;> first
    | exact .inl rfl
    | exact .inr (by simp [dSub, gI, cT])
def dDiv : D → D → Res D
  | .int i, .int j => if j ≠ 0 ∧ j.natAbs.log2 < 9000 then .ok (.int (i.fdiv j)) else .bad
  | _, _ => .bad
theorem od_div : OpD X W (binaryOp .FloorDiv) dDiv := od_divI.congr fun x y => by
  cases x <;> cases y <;> first
    | exact .inl rfl
    | exact .inr (by simp [dDiv, gI, cDiv])
def dMod : D → D → Res D
  | .int i, .int j => if j ≠ 0 then .ok (.int (i.fmod j)) else .bad
  | _, _ => .bad
theorem od_mod : OpD X W (binaryOp .Mod) dMod := od_modI.congr fun x y => by
  cases x <;> cases y <;> first
    | exact .inl rfl
    | exact .inr (by simp [dMod, gI, cMod])
def dPow : D → D → Res D
  | .int i, .int j => if 0 ≤ j ∧ (intBits i : Int) * j ≤ 2 ^ 27 then .ok (.int (i ^ j.toNat)) else .bad
  | _, _ => .bad
theorem od_pow : OpD X W (binaryOp .Pow) dPow := od_powI.congr fun x y => by
  cases x <;> cases y <;> first
    | exact .inl rfl
    | exact .inr (by simp [dPow, gI, cPow])

end

/-! ### == of data -/
mutual
def D.py : D → PyData
  | .non => .none
  | .bl b => .bool b
  | .int i => .int i
  | .str x => .str x
  | .obj _ => .none
  | .tup xs => .tuple (D.pys xs)
  | .lst xs => .list (D.pys xs)
  | .dct _ _ => .none
  | .con xs => .tuple (D.pys xs)
def D.pys : List D → List PyData
  | [] => []
  | d :: r => D.py d :: D.pys r
end
mutual
/-- without dicts and objects; texts that are texts; at most so deep -/
def D.pl : D → Nat → Bool
  | .non, _ => true
  | .bl _, _ => true
  | .int _, _ => true
  | .str x, _ => PyData.strOk x
  | .obj _, _ => false
  | .tup xs, n => match n with
    | 0 => false
    | n + 1 => D.pls xs n
  | .lst xs, n => match n with
    | 0 => false
    | n + 1 => D.pls xs n
  | .dct _ _, _ => false
  | .con xs, n => match n with
    | 0 => false
    | n + 1 => D.pls xs n
def D.pls : List D → Nat → Bool
  | [], _ => true
  | d :: r, n => D.pl d n && D.pls r n
end
theorem pl_nd {d : D} {n : Nat} (h : d.pl n = true) : d.isDct = false := by
  cases d with
  | dct t kvs => simp [D.pl] at h
  | _ => rfl
mutual
theorem py_can : ∀ (d : D) (n : Nat), d.pl n = true → d.py.canLay0 = true ∧ d.py.depth ≤ n
  | .non, n, _ => ⟨by simp [D.py, PyData.canLay0], by simp [D.py, PyData.depth]⟩
  | .bl _, n, _ => ⟨by simp [D.py, PyData.canLay0], by simp [D.py, PyData.depth]⟩
  | .int _, n, _ => ⟨by simp [D.py, PyData.canLay0], by simp [D.py, PyData.depth]⟩
  | .str _, n, h => ⟨by simpa [D.py, PyData.canLay0, D.pl] using h, by simp [D.py, PyData.depth]⟩
  | .obj _, n, h => by simp [D.pl] at h
  | .dct _ _, n, h => by simp [D.pl] at h
  | .con xs, 0, h => by simp [D.pl] at h
  | .con xs, n + 1, h => by
    have := pys_can xs n (by simpa [D.pl] using h)
    exact ⟨by simpa [D.py, PyData.canLay0] using this.1, by simp [D.py, PyData.depth]; exact this.2⟩
  | .tup xs, 0, h => by simp [D.pl] at h
  | .lst xs, 0, h => by simp [D.pl] at h
  | .tup xs, n + 1, h => by
    have := pys_can xs n (by simpa [D.pl] using h)
    exact ⟨by simpa [D.py, PyData.canLay0] using this.1, by simp [D.py, PyData.depth]; exact this.2⟩
  | .lst xs, n + 1, h => by
    have := pys_can xs n (by simpa [D.pl] using h)
    exact ⟨by simpa [D.py, PyData.canLay0] using this.1, by simp [D.py, PyData.depth]; exact this.2⟩
theorem pys_can : ∀ (ds : List D) (n : Nat), D.pls ds n = true → PyData.canLayAll0 (D.pys ds) = true ∧ PyData.depthAll (D.pys ds) ≤ n
  | [], n, _ => ⟨by simp [D.pys, PyData.canLayAll0], by simp [D.pys, PyData.depthAll]⟩
  | d :: r, n, h => by
    have h' : d.pl n = true ∧ D.pls r n = true := by simpa [D.pls] using h
    have a := py_can d n h'.1
    have b := pys_can r n h'.2
    exact ⟨by simp [D.pys, PyData.canLayAll0, a.1, b.1], by simp only [D.pys, PyData.depthAll]; omega⟩
end
mutual
theorem Rep.dp {K : PySem.W.Frag} {H : Hp} : ∀ (d : D) (n : Nat) (v : V), d.pl n = true → Rep K H d v → Dp K H v d.py
  | .non, n, v, _, r => by rw [show v = .non from r]; exact .non
  | .bl b, n, v, _, r => by rw [show v = .bl b from r]; exact .bl b
  | .int i, n, v, _, r => by rw [show v = .int i from r]; exact .int i
  | .str x, n, v, _, r => by rw [show v = .str x from r]; exact .str x
  | .obj _, n, v, h, r => by simp [D.pl] at h
  | .dct _ _, n, v, h, r => by simp [D.pl] at h
  | .con xs, 0, v, h, r => by simp [D.pl] at h
  | .con xs, n + 1, v, h, r => by
    obtain ⟨a, vs, e, s, q⟩ := r
    subst e
    exact .tup s (RepL.dp xs n vs (by simpa [D.pl] using h) q)
  | .tup xs, 0, v, h, r => by simp [D.pl] at h
  | .lst xs, 0, v, h, r => by simp [D.pl] at h
  | .tup xs, n + 1, v, h, r => by
    obtain ⟨a, vs, e, s, q⟩ := r
    subst e
    exact .tup (SqT.of s) (RepL.dp xs n vs (by simpa [D.pl] using h) q)
  | .lst xs, n + 1, v, h, r => by
    obtain ⟨a, vs, e, s, q⟩ := r
    subst e
    exact .lst s (RepL.dp xs n vs (by simpa [D.pl] using h) q)
theorem RepL.dp {K : PySem.W.Frag} {H : Hp} : ∀ (ds : List D) (n : Nat) (vs : List V), D.pls ds n = true → RepL K H ds vs → DpAll K H vs (D.pys ds)
  | [], n, vs, _, r => by rw [show vs = [] from r]; exact .nil
  | d :: ds, n, vs, h, r => by
    obtain ⟨v, t, e, a, b⟩ := r
    subst e
    have h' : d.pl n = true ∧ D.pls ds n = true := by simpa [D.pls] using h
    exact .cons (Rep.dp d n v h'.1 a) (RepL.dp ds n t h'.2 b)
end
theorem shaped_py {d : D} {n : Nat} (h : d.pl n = true) (hn : n ≤ 64) : SeqAt.shaped d.py = true := by
  have := py_can d n h
  unfold SeqAt.shaped
  rw [this.1, decide_eq_true (by omega : d.py.depth ≤ 64)]
  rfl
def D.beq (x y : D) : Bool := PyData.eqv x.py y.py
def dEq : D → D → Res D
  | .str a, .str b => .ok (.bl (decide (a = b)))
  | x, y => if x.pl 60 = true ∧ y.pl 60 = true then .ok (.bl (D.beq x y)) else .bad
def dNe : D → D → Res D
  | .str a, .str b => .ok (.bl (!decide (a = b)))
  | x, y => if x.pl 60 = true ∧ y.pl 60 = true then .ok (.bl (!D.beq x y)) else .bad
section
variable {X : Cx} {W : WX}
theorem od_eq (hu : X.A.units + 64 < cLine) : OpD X W (compareOp .Eq) dEq := by
  refine ⟨_, OpR.or op_eq (op_eqD hu), fun σ H G x y dx dy Q sg rx ry p => ?_⟩
  have gen : PostG X.K X.mg (fun c o H' => W c o σ H') H G (if dx.pl 60 = true ∧ dy.pl 60 = true then .ok (.bl (D.beq dx dy)) else .bad) (fun d H' G' => ∀ v, Rep X.K G' d v → Q v H') → rEq x y H Q ∨ rEqD X.K x y H Q := fun p => by
    by_cases hc : dx.pl 60 = true ∧ dy.pl 60 = true
    · rw [if_pos hc] at p
      exact .inr ⟨dx.py, dy.py, Rep.dp dx 60 x hc.1 (rx.all sg (pl_nd hc.1)), Rep.dp dy 60 y hc.2 (ry.all sg (pl_nd hc.2)), shaped_py hc.1 (by decide), shaped_py hc.2 (by decide), p.here sg _ rfl⟩
    · rw [if_neg hc] at p; exact p.elim
  cases dx with
  | str a =>
    cases dy with
    | str b =>
      have rx' : x = .str a := rx
      have ry' : y = .str b := ry
      subst rx' ry'
      refine .inl ⟨rfl, ?_⟩
      have q : Q (.bl (decide (a = b))) H := PostG.val (d := .bl (decide (a = b))) p sg rfl
      have e : decide (V.str a = V.str b) = decide (a = b) := by simp
      rw [e]; exact q
    | _ => exact gen p
  | _ => exact gen p
theorem od_ne (hu : X.A.units + 64 < cLine) : OpD X W (compareOp .NotEq) dNe := by
  refine ⟨_, OpR.or op_ne (op_neD hu), fun σ H G x y dx dy Q sg rx ry p => ?_⟩
  have gen : PostG X.K X.mg (fun c o H' => W c o σ H') H G (if dx.pl 60 = true ∧ dy.pl 60 = true then .ok (.bl (!D.beq dx dy)) else .bad) (fun d H' G' => ∀ v, Rep X.K G' d v → Q v H') → rNe x y H Q ∨ rNeD X.K x y H Q := fun p => by
    by_cases hc : dx.pl 60 = true ∧ dy.pl 60 = true
    · rw [if_pos hc] at p
      exact .inr ⟨dx.py, dy.py, Rep.dp dx 60 x hc.1 (rx.all sg (pl_nd hc.1)), Rep.dp dy 60 y hc.2 (ry.all sg (pl_nd hc.2)), shaped_py hc.1 (by decide), shaped_py hc.2 (by decide), p.here sg _ rfl⟩
    · rw [if_neg hc] at p; exact p.elim
  cases dx with
  | str a =>
    cases dy with
    | str b =>
      have rx' : x = .str a := rx
      have ry' : y = .str b := ry
      subst rx' ry'
      refine .inl ⟨rfl, ?_⟩
      have q : Q (.bl (!decide (a = b))) H := PostG.val (d := .bl (!decide (a = b))) p sg rfl
      have e : decide (V.str a = V.str b) = decide (a = b) := by simp
      rw [e]; exact q
    | _ => exact gen p
  | _ => exact gen p
end
/-! ### < of data -/
/-- the two can be compared -/
def D.cmpb (x y : D) : Bool := x.pl 60 && y.pl 60 && PySem.W.alike x.py y.py && (match x with | .non => false | _ => true)
/-- x < y, of data that can be compared -/
def D.lt (x y : D) : Bool := PySem.W.dataLt x.py y.py
def cmpD (f : D → D → Bool) (x y : D) : Res D := if D.cmpb x y = true then .ok (.bl (f x y)) else .bad
def dLt : D → D → Res D
  | .int i, .int j => .ok (.bl (decide (i < j)))
  | x, y => cmpD (fun x y => D.lt x y) x y
def dLe : D → D → Res D
  | .int i, .int j => .ok (.bl (decide (i ≤ j)))
  | x, y => cmpD (fun x y => !D.lt y x) x y
def dGt : D → D → Res D
  | .int i, .int j => .ok (.bl (decide (j < i)))
  | x, y => cmpD (fun x y => D.lt y x) x y
def dGe : D → D → Res D
  | .int i, .int j => .ok (.bl (decide (j ≤ i)))
  | x, y => cmpD (fun x y => !D.lt x y) x y
def rCmpD (K : PySem.W.Frag) (f : PyData → PyData → Bool) : R2 := fun x y H Q => ∃ d e, Dp K H x d ∧ Dp K H y e ∧ SeqAt.shaped d = true ∧ SeqAt.shaped e = true ∧ PySem.W.alike d e = true ∧ d ≠ .none ∧ Q (.bl (f d e)) H
theorem shaped_depth {d : PyData} (h : SeqAt.shaped d = true) : d.depth ≤ 64 := by
  unfold SeqAt.shaped at h
  rw [Bool.and_eq_true] at h
  exact of_decide_eq_true h.2
section
variable {X : Cx} {W : WX}
theorem op_ltD (hu : X.A.units + 64 < cLine) : OpR X (compareOp .Lt) (rCmpD X.K PySem.W.dataLt) := by
  intro pins s σ H x y v u Q I rx ry h
  obtain ⟨d, e, hd, he, sd, se, al, nn, q⟩ := h
  obtain ⟨as, r1⟩ := Dp.reads I d x v hd rx
  obtain ⟨bs, r2⟩ := Dp.reads I e y u he ry
  have := shaped_depth sd
  exact PySem.W.lt_data r1 r2 al nn (by omega) ⟨.bl _, H, I, rfl, q⟩
theorem op_gtD (hu : X.A.units + 64 < cLine) : OpR X (compareOp .Gt) (rCmpD X.K fun d e => PySem.W.dataLt e d) := by
  intro pins s σ H x y v u Q I rx ry h
  obtain ⟨d, e, hd, he, sd, se, al, nn, q⟩ := h
  obtain ⟨as, r1⟩ := Dp.reads I d x v hd rx
  obtain ⟨bs, r2⟩ := Dp.reads I e y u he ry
  have := shaped_depth sd
  exact PySem.W.gt_data r1 r2 al nn (by omega) ⟨.bl _, H, I, rfl, q⟩
theorem op_leD (hu : X.A.units + 64 < cLine) : OpR X (compareOp .LtE) (rCmpD X.K fun d e => !PySem.W.dataLt e d) := by
  intro pins s σ H x y v u Q I rx ry h
  obtain ⟨d, e, hd, he, sd, se, al, nn, q⟩ := h
  obtain ⟨as, r1⟩ := Dp.reads I d x v hd rx
  obtain ⟨bs, r2⟩ := Dp.reads I e y u he ry
  have := shaped_depth sd
  exact PySem.W.le_data r1 r2 al nn (by omega) ⟨.bl _, H, I, rfl, q⟩
theorem op_geD (hu : X.A.units + 64 < cLine) : OpR X (compareOp .GtE) (rCmpD X.K fun d e => !PySem.W.dataLt d e) := by
  intro pins s σ H x y v u Q I rx ry h
  obtain ⟨d, e, hd, he, sd, se, al, nn, q⟩ := h
  obtain ⟨as, r1⟩ := Dp.reads I d x v hd rx
  obtain ⟨bs, r2⟩ := Dp.reads I e y u he ry
  have := shaped_depth sd
  exact PySem.W.ge_data r1 r2 al nn (by omega) ⟨.bl _, H, I, rfl, q⟩
theorem cmp_rep {K : PySem.W.Frag} {H G : Hp} {x y : V} {dx dy : D} (sg : Sub G H) (hc : D.cmpb dx dy = true) (rx : RepC K H G dx x) (ry : RepC K H G dy y) :
    Dp K H x dx.py ∧ Dp K H y dy.py ∧ SeqAt.shaped dx.py = true ∧ SeqAt.shaped dy.py = true ∧ PySem.W.alike dx.py dy.py = true ∧ dx.py ≠ .none := by
  unfold D.cmpb at hc
  simp only [Bool.and_eq_true] at hc
  obtain ⟨⟨⟨h1, h2⟩, h3⟩, h4⟩ := hc
  refine ⟨Rep.dp dx 60 x h1 (rx.all sg (pl_nd h1)), Rep.dp dy 60 y h2 (ry.all sg (pl_nd h2)), shaped_py h1 (by decide), shaped_py h2 (by decide), h3, ?_⟩
  cases dx with
  | non => cases h4
  | obj _ => simp [D.pl] at h1
  | dct _ _ => simp [D.pl] at h1
  | _ => simp [D.py]
theorem od_cmp {op : CmpOp} {g : D → D → Res D} {gi : Int → Int → Bool} {f : D → D → Bool} {fp : PyData → PyData → Bool} (o1 : OpR X (compareOp op) (rI0 fun i j => .bl (gi i j))) (o2 : OpR X (compareOp op) (rCmpD X.K fp)) (hf : ∀ x y, f x y = fp x.py y.py)
    (hg : ∀ x y, (∃ i j, x = .int i ∧ y = .int j ∧ g x y = .ok (.bl (gi i j))) ∨ g x y = cmpD f x y) : OpD X W (compareOp op) g := by
  refine ⟨_, OpR.or o1 o2, fun σ H G x y dx dy Q sg rx ry p => ?_⟩
  rcases hg dx dy with ⟨i, j, e1, e2, e3⟩ | e
  · subst e1 e2
    rw [e3] at p
    exact .inl ⟨i, j, rx, ry, PostG.val (d := .bl (gi i j)) p sg rfl⟩
  · rw [e] at p
    unfold cmpD at p
    by_cases hc : D.cmpb dx dy = true
    · rw [if_pos hc] at p
      obtain ⟨a1, a2, a3, a4, a5, a6⟩ := cmp_rep sg hc rx ry
      refine .inr ⟨_, _, a1, a2, a3, a4, a5, a6, ?_⟩
      rw [← hf]
      exact p.here sg _ rfl
    · rw [if_neg hc] at p; exact p.elim
theorem od_lt (hu : X.A.units + 64 < cLine) : OpD X W (compareOp .Lt) dLt := od_cmp op_lt (op_ltD hu) (fun _ _ => rfl) fun x y => by
  cases x <;> cases y <;> first
    | exact .inl ⟨_, _, rfl, rfl, rfl⟩
    | exact .inr rfl
theorem od_le (hu : X.A.units + 64 < cLine) : OpD X W (compareOp .LtE) dLe := od_cmp op_le (op_leD hu) (fun _ _ => rfl) fun x y => by
  cases x <;> cases y <;> first
    | exact .inl ⟨_, _, rfl, rfl, rfl⟩
    | exact .inr rfl
theorem od_gt (hu : X.A.units + 64 < cLine) : OpD X W (compareOp .Gt) dGt := od_cmp op_gt (op_gtD hu) (fun _ _ => rfl) fun x y => by
  cases x <;> cases y <;> first
    | exact .inl ⟨_, _, rfl, rfl, rfl⟩
    | exact .inr rfl
theorem od_ge (hu : X.A.units + 64 < cLine) : OpD X W (compareOp .GtE) dGe := od_cmp op_ge (op_geD hu) (fun _ _ => rfl) fun x y => by
  cases x <;> cases y <;> first
    | exact .inl ⟨_, _, rfl, rfl, rfl⟩
    | exact .inr rfl
end
end DL

namespace DL
open PySem PySem.Spec PyProof.Rows L2
open PySem.Builtin.Int (intBits)

/-! ### tests -/
def D.asB : D → Res Bool
  | .bl b => .ok b
  | _ => .bad
/-- a value's truth -/
def D.truth : D → Res Bool
  | .non => .ok false
  | .bl b => .ok b
  | .int i => .ok (i != 0)
  | .str x => if x.length ≤ sizeLine then .ok ((x.length : Int) != 0) else .bad
  | .lst xs => .ok (!xs.isEmpty)
  | .tup xs => .ok (!xs.isEmpty)
  | _ => .bad
def bTest (g : D → D → Res D) (fa fb : Env → Res D) : Env → Res Bool := fun e => (fa e).bind fun x => (fb e).bind fun y => (g x y).bind D.asB
def bTruth (f : Env → Res D) : Env → Res Bool := fun e => (f e).bind D.truth
def bAnd (fa fb : Env → Res Bool) : Env → Res Bool := fun e => (fa e).bind fun b => if b = true then fb e else .ok false
def bOr (fa fb : Env → Res Bool) : Env → Res Bool := fun e => (fa e).bind fun b => if b = true then .ok true else fb e
def bNot (fa : Env → Res Bool) : Env → Res Bool := fun e => (fa e).bind fun b => .ok (!b)
section
variable {X : Cx} {W : WX} {A : Nat → Prop} {a b : Expr} {rest : List Expr} {pos : Pos}
theorem dt_cmp {op : CmpOp} {fa fb : Env → Res D} {g : D → D → Res D} (ho : OpD X W (compareOp op) g) (ha : DR X W A a fa) (hb : DR X W A b fb) (hm : behindInMarks op b = false) : DT X W A (.Compare a [op] [b] pos) (bTest g fa fb) := by
  obtain ⟨r, h1, h2⟩ := ho
  refine (pt_cmpR h1 ha hb hm).imp fun σ H Q ⟨e, G, E, p⟩ => ?_
  refine ⟨e, G, E, p.split.imp fun dx H1 G1 x1 p1 v rv => ⟨e, G1, E.ext x1, p1.split.imp fun dy H2 G2 x2 p2 u ru => ?_⟩⟩
  refine h2 σ H2 G2 v u dx dy _ x2.gh (rv.mono x2.hh x2.gg) ru (p2.split.imp fun d H3 G3 x3 p3 z rz => ?_)
  cases d with
  | bl k => exact ⟨k, rz, p3.here x3.gh⟩
  | _ => exact (show False from p3).elim
theorem truth_v {K : PySem.W.Frag} {H G : Hp} {d : D} {v : V} {k : Bool} (g : Sub G H) (r : RepC K H G d v) (h : d.truth = .ok k) : TruV K v H k := by
  cases d with
  | non => have : v = .non := r; subst this; cases h; rfl
  | bl b => have : v = .bl b := r; subst this; cases h; rfl
  | int i => have : v = .int i := r; subst this; cases h; rfl
  | str x =>
    have : v = .str x := r
    subst this
    dsimp only [D.truth] at h
    by_cases hc : x.length ≤ sizeLine
    · rw [if_pos hc] at h; cases h; exact ⟨hc, rfl⟩
    · rw [if_neg hc] at h; cases h
  | lst xs =>
    obtain ⟨p, vs, e, s, q⟩ := r
    subst e
    cases h
    refine .inl ⟨vs, s, ?_⟩
    have := q.length
    cases vs <;> cases xs <;> simp at this ⊢
  | tup xs =>
    obtain ⟨p, vs, e, s, q⟩ := (show Rep K G (.tup xs) v from r)
    subst e
    cases h
    refine .inr (.inl ⟨vs, g.pt s, ?_⟩)
    have := q.length
    cases vs <;> cases xs <;> simp at this ⊢
  | obj _ => cases h
  | con _ => cases h
  | dct _ _ => cases h
theorem dt_truth {f : Env → Res D} (ha : DR X W A a f) (he : ∀ whole, isTrue a X.env whole = (do let v ← whole; standAt a.pos; holding [v] (truthy v))) : DT X W A a (bTruth f) :=
  (pt_truth ha he).imp fun σ H Q ⟨e, G, E, p⟩ => ⟨e, G, E, p.split.imp fun d H1 G1 x1 p1 v rv => by
    cases ht : d.truth with
    | ok k => rw [ht] at p1; exact ⟨k, truth_v x1.gh rv ht, p1.here x1.gh⟩
    | exc c fs => exact absurd ht (by cases d <;> simp [D.truth] <;> split <;> simp)
    | bad => rw [ht] at p1; exact p1.elim⟩
theorem dw_and1 {fa : Env → Res Bool} (ha : DT X W A a fa) : DW X W A (.BoolOp .And [a] pos) fa := pw_and1 ha
theorem dw_or1 {fa : Env → Res Bool} (ha : DT X W A a fa) : DW X W A (.BoolOp .Or [a] pos) fa := pw_or1 ha
theorem dw_and {fa fb : Env → Res Bool} (ha : DT X W A a fa) (hb : DW X W A (.BoolOp .And (b :: rest) pos) fb) : DW X W A (.BoolOp .And (a :: b :: rest) pos) (bAnd fa fb) :=
  (pw_and ha hb).imp fun σ H Q ⟨e, G, E, p⟩ => ⟨e, G, E, p.split.imp fun k H1 G1 x1 p1 => by
    cases k with
    | true => rw [if_pos rfl] at p1 ⊢; exact ⟨e, G1, E.ext x1, p1⟩
    | false => rw [if_neg Bool.false_ne_true] at p1 ⊢; exact p1.here x1.gh⟩
theorem dw_or {fa fb : Env → Res Bool} (ha : DT X W A a fa) (hb : DW X W A (.BoolOp .Or (b :: rest) pos) fb) : DW X W A (.BoolOp .Or (a :: b :: rest) pos) (bOr fa fb) :=
  (pw_or ha hb).imp fun σ H Q ⟨e, G, E, p⟩ => ⟨e, G, E, p.split.imp fun k H1 G1 x1 p1 => by
    cases k with
    | true => rw [if_pos rfl] at p1 ⊢; exact p1.here x1.gh
    | false => rw [if_neg Bool.false_ne_true] at p1 ⊢; exact ⟨e, G1, E.ext x1, p1⟩⟩
theorem dt_w {f : Env → Res Bool} (h : DW X W A a f) : DT X W A a f := h.pt
theorem dt_not {fa : Env → Res Bool} (ha : DT X W A a fa) : DT X W A (.UnaryOp .Not a pos) (bNot fa) :=
  (pt_not ha).imp fun σ H Q ⟨e, G, E, p⟩ => ⟨e, G, E, p.split.imp fun k H1 G1 x1 p1 => p1.here x1.gh⟩

/-! ### and, or, not, if-else as values -/
def eAnd (fa fb : Env → Res D) : Env → Res D := fun e => (fa e).bind fun x => (D.asB x).bind fun b => if b = true then fb e else .ok (.bl false)
def eOr (fa fb : Env → Res D) : Env → Res D := fun e => (fa e).bind fun x => (D.asB x).bind fun b => if b = true then .ok (.bl true) else fb e
def eNot (fa : Env → Res D) : Env → Res D := fun e => (fa e).bind fun x => (D.asB x).bind fun b => .ok (.bl (!b))
def eNeg (fa : Env → Res D) : Env → Res D := fun e => (fa e).bind fun x => match x with
  | .int i => .ok (.int (-i))
  | _ => .bad
def eIf (ft : Env → Res Bool) (fa fb : Env → Res D) : Env → Res D := fun e => (ft e).bind fun b => if b = true then fa e else fb e
theorem asB_of {K : PySem.W.Frag} {mg : Str → Option Value} {W : Value → Option Addr → Hp → Prop} {H G : Hp} {d : D} {α : Type} {f : Bool → Res α} {R : α → Hp → Hp → Prop} (p : PostG K mg W H G ((D.asB d).bind f) R) : ∃ b, d = .bl b ∧ PostG K mg W H G (f b) R := by
  cases d with
  | bl b => exact ⟨b, rfl, p⟩
  | _ => exact (show False from p).elim
theorem de_one {op} {f : Env → Res D} (h : DE X W A a f) : DE X W A (.BoolOp op [a] pos) f := pe_one h
theorem de_and {fa fb : Env → Res D} (ha : DE X W A a fa) (hb : DE X W A (.BoolOp .And (b :: rest) pos) fb) : DE X W A (.BoolOp .And (a :: b :: rest) pos) (eAnd fa fb) :=
  (pe_and ha hb).imp fun σ H Q ⟨e, G, E, p⟩ => ⟨e, G, E, p.split.imp fun x H1 G1 x1 p1 v rv => by
    obtain ⟨k, rfl, p2⟩ := asB_of p1
    refine ⟨k, rv, ?_⟩
    cases k with
    | true => rw [if_pos rfl] at p2 ⊢; exact ⟨e, G1, E.ext x1, p2⟩
    | false => rw [if_neg Bool.false_ne_true] at p2 ⊢; exact p2.val x1.gh rfl⟩
theorem de_or {fa fb : Env → Res D} (ha : DE X W A a fa) (hb : DE X W A (.BoolOp .Or (b :: rest) pos) fb) : DE X W A (.BoolOp .Or (a :: b :: rest) pos) (eOr fa fb) :=
  (pe_or ha hb).imp fun σ H Q ⟨e, G, E, p⟩ => ⟨e, G, E, p.split.imp fun x H1 G1 x1 p1 v rv => by
    obtain ⟨k, rfl, p2⟩ := asB_of p1
    refine ⟨k, rv, ?_⟩
    cases k with
    | true => rw [if_pos rfl] at p2 ⊢; exact p2.val x1.gh rfl
    | false => rw [if_neg Bool.false_ne_true] at p2 ⊢; exact ⟨e, G1, E.ext x1, p2⟩⟩
theorem de_not {fa : Env → Res D} (ha : DE X W A a fa) : DE X W A (.UnaryOp .Not a pos) (eNot fa) :=
  (pe_not ha).imp fun σ H Q ⟨e, G, E, p⟩ => ⟨e, G, E, p.split.imp fun x H1 G1 x1 p1 v rv => by
    obtain ⟨k, rfl, p2⟩ := asB_of p1
    exact ⟨k, rv, p2.val x1.gh rfl⟩⟩
theorem de_neg {fa : Env → Res D} (ha : DE X W A a fa) : DE X W A (.UnaryOp .USub a pos) (eNeg fa) :=
  (pe_un un_neg ha).imp fun σ H Q ⟨e, G, E, p⟩ => ⟨e, G, E, p.split.imp fun x H1 G1 x1 p1 v rv => by
    cases x with
    | int i => exact ⟨i, rv, PostG.val (d := .int (-i)) p1 x1.gh rfl⟩
    | _ => exact (show False from p1).elim⟩
theorem de_if {c : Expr} {ft : Env → Res Bool} {fa fb : Env → Res D} (hc : DT X W A c ft) (ha : DE X W A a fa) (hb : DE X W A b fb) : DE X W A (.IfExp c a b pos) (eIf ft fa fb) :=
  (pe_ifExp hc ha hb).imp fun σ H Q ⟨e, G, E, p⟩ => ⟨e, G, E, p.split.imp fun k H1 G1 x1 p1 => by
    cases k with
    | true => rw [if_pos rfl] at p1 ⊢; exact ⟨e, G1, E.ext x1, p1⟩
    | false => rw [if_neg Bool.false_ne_true] at p1 ⊢; exact ⟨e, G1, E.ext x1, p1⟩⟩
/-- a op1 b op2 c -/
def eChain (g g' : D → D → Res D) (fa fb fc : Env → Res D) : Env → Res D := fun e => (fa e).bind fun x => (fb e).bind fun y => (g x y).bind fun z => (D.asB z).bind fun k =>
  if k = true then (fc e).bind fun w => g' y w else .ok (.bl false)
theorem de_chain {c : Expr} {op op' : CmpOp} {g g' : D → D → Res D} {fa fb fc : Env → Res D} (ho : OpD X W (compareOp op) g) (ho' : OpD X W (compareOp op') g') (ha : DR X W A a fa) (hb : DR X W A b fb) (hc : DR X W A c fc)
    (hm : lastMarks [op, op'] [b, c] = false := by with_unfolding_all rfl) : DE X W A (.Compare a [op, op'] [b, c] pos) (eChain g g' fa fb fc) := by
  obtain ⟨r, h1, h2⟩ := ho
  obtain ⟨r', h1', h2'⟩ := ho'
  refine (pe_chain h1 h1' ha hb hc hm).imp fun σ H Q ⟨e, G, E, p⟩ => ?_
  refine ⟨e, G, E, p.split.imp fun dx H1 G1 x1 p1 v rv => ⟨e, G1, E.ext x1, p1.split.imp fun dy H2 G2 x2 p2 u ru => ?_⟩⟩
  refine h2 σ H2 G2 v u dx dy _ x2.gh (rv.mono x2.hh x2.gg) ru (p2.split.imp fun d H3 G3 x3 p3 z rz => ?_)
  obtain ⟨k, rfl, p4⟩ := asB_of p3
  refine ⟨k, rz, ?_⟩
  cases k with
  | true =>
    rw [if_pos rfl] at p4 ⊢
    refine ⟨e, G3, ((E.ext x1).ext x2).ext x3, p4.split.imp fun dw H4 G4 x4 p5 w rw => ?_⟩
    exact h2' σ H4 G4 u w dy dw Q x4.gh ((ru.mono x3.hh x3.gg).mono x4.hh x4.gg) rw p5
  | false => rw [if_neg Bool.false_ne_true] at p4 ⊢; exact p4.val x3.gh rfl
def bVal (f : Env → Res D) : Env → Res Bool := fun e => (f e).bind D.asB
theorem dt_chain {c : Expr} {op op' : CmpOp} {g g' : D → D → Res D} {fa fb fc : Env → Res D} (ho : OpD X W (compareOp op) g) (ho' : OpD X W (compareOp op') g') (ha : DR X W A a fa) (hb : DR X W A b fb) (hc : DR X W A c fc)
    (hm : lastMarks [op, op'] [b, c] = false := by with_unfolding_all rfl) : DT X W A (.Compare a [op, op'] [b, c] pos) (bVal (eChain g g' fa fb fc)) := by
  obtain ⟨r, h1, h2⟩ := ho
  obtain ⟨r', h1', h2'⟩ := ho'
  refine (pt_chain h1 h1' ha hb hc hm).imp fun σ H Q ⟨e, G, E, p⟩ => ?_
  have p := p.split
  refine ⟨e, G, E, p.split.imp fun dx H1 G1 x1 p1 v rv => ⟨e, G1, E.ext x1, p1.split.imp fun dy H2 G2 x2 p2 u ru => ?_⟩⟩
  refine h2 σ H2 G2 v u dx dy _ x2.gh (rv.mono x2.hh x2.gg) ru (p2.split.imp fun d H3 G3 x3 p3 z rz => ?_)
  obtain ⟨k, rfl, p4⟩ := asB_of p3
  refine ⟨k, rz, ?_⟩
  cases k with
  | true =>
    rw [if_pos rfl] at p4 ⊢
    refine ⟨e, G3, ((E.ext x1).ext x2).ext x3, p4.split.imp fun dw H4 G4 x4 p5 w rw => ?_⟩
    refine h2' σ H4 G4 u w dy dw _ x4.gh ((ru.mono x3.hh x3.gg).mono x4.hh x4.gg) rw (p5.imp fun d H5 G5 x5 p6 z rz => ?_)
    cases d with
    | bl k => exact ⟨k, rz, p6.here x5.gh⟩
    | _ => exact (show False from p6).elim
  | false => rw [if_neg Bool.false_ne_true] at p4 ⊢; exact ⟨false, rfl, (p4.here x3.gh).here x3.gh⟩

/-! ### argument lists, displays -/
def aNil : Env → Res (List D) := fun _ => .ok []
def aCons (f : Env → Res D) (fs : Env → Res (List D)) : Env → Res (List D) := fun e => (f e).bind fun d => (fs e).bind fun ds => .ok (d :: ds)
theorem da_nil : DA X W A [] aNil := pa_nil.imp fun σ H Q ⟨e, G, E, p⟩ => p.here E.sub [] rfl
theorem da_cons {es : List Expr} {f : Env → Res D} {fs : Env → Res (List D)} (ha : DE X W A a f) (hr : DA X W A es fs) (hs : starEach (a :: es) X.env = (false, eval a X.env) :: starEach es X.env := by rfl) : DA X W A (a :: es) (aCons f fs) :=
  (pa_cons ha hr hs).imp fun σ H Q ⟨e, G, E, p⟩ => ⟨e, G, E, p.split.imp fun d H1 G1 x1 p1 v rv => ⟨e, G1, E.ext x1, p1.split.imp fun ds H2 G2 x2 p2 vs rs => p2.here x2.gh (v :: vs) (.cons (rv.mono x2.gg) rs)⟩⟩
def eTup (fs : Env → Res (List D)) : Env → Res D := fun e => (fs e).bind fun ds => .ok (.tup ds)
def eLst (fs : Env → Res (List D)) : Env → Res D := fun e => (fs e).bind fun ds => .ok (.lst ds)
/-- how long such a list is -/
def LenIs (fs : Env → Res (List D)) (n : Nat) : Prop := ∀ e ds, fs e = .ok ds → ds.length ≤ n
theorem len_nil : LenIs aNil 0 := fun e ds h => by cases h; exact Nat.le_refl _
theorem len_cons {f : Env → Res D} {fs : Env → Res (List D)} {n : Nat} (h : LenIs fs n) : LenIs (aCons f fs) (n + 1) := fun e ds q => by
  unfold aCons at q
  cases hf : f e with
  | ok d =>
    rw [hf] at q
    cases hs : fs e with
    | ok es => rw [hs] at q; cases q; exact Nat.succ_le_succ (h e es hs)
    | exc c x => rw [hs] at q; cases q
    | bad => rw [hs] at q; cases q
  | exc c x => rw [hf] at q; cases q
  | bad => rw [hf] at q; cases q
theorem PostG.ifok {K : PySem.W.Frag} {mg : Str → Option Value} {W : Value → Option Addr → Hp → Prop} {H G : Hp} {α : Type} {r : Res α} {R R' : α → Hp → Hp → Prop} (h : PostG K mg W H G r R) (f : ∀ a H' G', r = .ok a → Ext H G H' G' → R a H' G' → R' a H' G') : PostG K mg W H G r R' := by
  cases r with
  | ok a => exact fun H2 G2 y => f a H2 G2 rfl y (h H2 G2 y)
  | exc c fs => exact h
  | bad => exact h
theorem de_tup {es : List Expr} {x1} {fs : Env → Res (List D)} {n : Nat} (h : DA X W A es fs) (hl : LenIs fs n) (hn : n ≤ sizeLine) : DE X W A (.Tuple es x1 pos) (eTup fs) :=
  (pe_tup h).imp fun σ H Q ⟨e, G, E, p⟩ => ⟨e, G, E, p.split.ifok fun ds H1 G1 hk x1 p1 vs rs => ⟨by rw [rs.length]; exact Nat.le_trans (hl e ds hk) hn, fun q hq =>
    p1 _ _ (Ext.laid x1.gh hq) _ ⟨q, vs, rfl, upd_same, rs.mono (Sub.upd (x1.gh.free hq))⟩⟩⟩
theorem df_lst {es : List Expr} {fs : Env → Res (List D)} {n : Nat} (h : DA X W A es fs) (hl : LenIs fs n) (hn : n ≤ sizeLine) : DF X W A (.List es pos) (eLst fs) :=
  (pe_lst h).imp fun σ H Q ⟨e, G, E, p⟩ => ⟨e, G, E, p.split.ifok fun ds H1 G1 hk x1 p1 vs rs => ⟨by rw [rs.length]; exact Nat.le_trans (hl e ds hk) hn, fun q hq =>
    p1 (upd H1 q (.lst vs)) G1 ⟨Sub.upd hq, Sub.refl _, x1.gh.trans (Sub.upd hq), fun b z => .inl z⟩ q (x1.hh.free hq) (x1.gh.free hq) ⟨vs, upd_same, rs⟩⟩⟩

/-! ### subscripts -/
def dIx : D → D → Res D
  | .con xs, .int i => match atI xs i with
    | some d => .ok d
    | none => .bad
  | .tup xs, .int i => match atI xs i with
    | some d => .ok d
    | none => .bad
  | .lst xs, .int i => match atI xs i with
    | some d => .ok d
    | none => .bad
  | .str x, .int i => if x.length ≤ sizeLine then (match atI x.cps.toList i with
    | some c => .ok (.str ⟨#[c]⟩)
    | none => .bad) else .bad
  | _, _ => .bad
theorem atI_rep {K : PySem.W.Frag} {G : Hp} {ds : List D} {vs : List V} {i : Int} {d : D} (r : RepL K G ds vs) (h : atI ds i = some d) : ∃ v, atI vs i = some v ∧ Rep K G d v := by
  unfold atI at h ⊢
  rw [r.length]
  cases e : ixN ds.length i with
  | none => rw [e] at h; cases h
  | some j =>
    rw [e] at h
    have h' : ds[j]? = some d := h
    obtain ⟨v, h1, h2⟩ := r.get h'
    exact ⟨v, h1, h2⟩
theorem de_ix {fa fb : Env → Res D} (ha : DR X W A a fa) (hb : DR X W A b fb) (hs : PlainIx b) : DE X W A (.Subscript a b pos) (eOp dIx fa fb) := by
  refine (pe_ix (IxR.or ix_list (IxR.or ix_tup ix_str)) ha hb hs).imp (op_two rfl rfl fun σ H G x y dx dy Q sg rx ry p => ?_)
  cases dx with
  | tup ds =>
    cases dy with
    | int i =>
      obtain ⟨q, vs, e, s, r⟩ := (show Rep X.K G (.tup ds) x from rx)
      dsimp only [dIx] at p
      cases ha : atI ds i with
      | none => rw [ha] at p; exact p.elim
      | some d =>
        rw [ha] at p
        obtain ⟨v, h1, h2⟩ := atI_rep r ha
        exact .inr (.inl ⟨q, vs, i, v, e, ry, sg.pt s, h1, p.val sg h2⟩)
    | _ => exact (show False from p).elim
  | con ds =>
    cases dy with
    | int i =>
      obtain ⟨q, vs, e, s, r⟩ := (show Rep X.K G (.con ds) x from rx)
      dsimp only [dIx] at p
      cases ha : atI ds i with
      | none => rw [ha] at p; exact p.elim
      | some d =>
        rw [ha] at p
        obtain ⟨v, h1, h2⟩ := atI_rep r ha
        exact .inr (.inl ⟨q, vs, i, v, e, ry, sg.sqt s, h1, p.val sg h2⟩)
    | _ => exact (show False from p).elim
  | lst ds =>
    cases dy with
    | int i =>
      obtain ⟨q, vs, e, s, r⟩ := rx
      dsimp only [dIx] at p
      cases ha : atI ds i with
      | none => rw [ha] at p; exact p.elim
      | some d =>
        rw [ha] at p
        obtain ⟨v, h1, h2⟩ := atI_rep r ha
        exact .inl ⟨q, vs, i, v, e, ry, s, h1, p.val sg h2⟩
    | _ => exact (show False from p).elim
  | str z =>
    cases dy with
    | int i =>
      dsimp only [dIx] at p
      by_cases hz : z.length ≤ sizeLine
      · rw [if_pos hz] at p
        cases ha : atI z.cps.toList i with
        | none => rw [ha] at p; exact p.elim
        | some c =>
          rw [ha] at p
          exact .inr (.inr ⟨z, i, c, rx, ry, hz, ha, p.val sg rfl⟩)
      · rw [if_neg hz] at p; exact p.elim
    | _ => exact (show False from p).elim
  | _ => exact (show False from p).elim
end
end DL

namespace DL
open PySem PySem.Spec PyProof.Rows L2
open PySem.Builtin.Int (intBits)

/-! ### slices -/
def tO (K : PySem.W.Frag) (mg : Str → Option Value) (W : WX) (A : Nat → Prop) (f : Env → Res (Option Int)) : TO := fun σ H Q => ∃ e G, EnvG K A σ e H G ∧ PostG K mg (fun c o H' => W c o σ H') H G (f e) fun b H' G' => Q b H'
abbrev DO (X : Cx) (W : WX) (A : Nat → Prop) (ex : Option Expr) (f : Env → Res (Option Int)) : Prop := PO X ex (tO X.K X.mg W A f)
theorem _root_.L2.PO.imp {X : Cx} {e : Option Expr} {t t' : TO} (h : PO X e t) (f : ∀ σ H Q, t' σ H Q → t σ H Q) : PO X e t' := ⟨fun pins s σ H Q I q => h.run pins s σ H Q I (f σ H Q q)⟩
def oNone : Env → Res (Option Int) := fun _ => .ok none
def oSome (f : Env → Res D) : Env → Res (Option Int) := fun e => (f e).bind fun d => match d with
  | .int i => .ok (some i)
  | _ => .bad
def cutL {α : Type} (xs : List α) (lo hi : Option Int) : List α := (xs.drop (HT.sIx xs.length 0 lo)).take (HT.sIx xs.length xs.length hi - HT.sIx xs.length 0 lo)
def dCut (lo hi : Option Int) : D → Res D
  | .tup xs => .ok (.tup (cutL xs lo hi))
  | .lst xs => .ok (.lst (cutL xs lo hi))
  | .str x => if x.length ≤ sizeLine then .ok (.str (cutS x lo hi)) else .bad
  | _ => .bad
def eCut (f : Env → Res D) (fl fh : Env → Res (Option Int)) : Env → Res D := fun e => (f e).bind fun d => (fl e).bind fun lo => (fh e).bind fun hi => dCut lo hi d
theorem cutL_all {α : Type} {xs : List α} {lo hi : Option Int} (h : HT.sIx xs.length 0 lo = 0 ∧ HT.sIx xs.length xs.length hi = xs.length) : cutL xs lo hi = xs := by
  unfold cutL
  rw [h.1, h.2]
  simp
theorem RepL.cut {K : PySem.W.Frag} {G : Hp} {ds : List D} {vs : List V} (lo hi : Option Int) (h : RepL K G ds vs) : RepL K G (cutL ds lo hi) (cutV vs lo hi) := by
  unfold cutL cutV
  rw [h.length]
  exact (h.drop _).take _
section
variable {X : Cx} {W : WX} {A : Nat → Prop} {a b : Expr} {lo hi : Option Expr} {rest : List Expr} {pos p2 : Pos}
theorem do_none : DO X W A none oNone := po_none.imp fun σ H Q ⟨e, G, E, p⟩ => p.here E.sub
theorem do_some {f : Env → Res D} (h : DE X W A a f) : DO X W A (some a) (oSome f) :=
  (po_some h).imp fun σ H Q ⟨e, G, E, p⟩ => ⟨e, G, E, p.split.imp fun d H1 G1 x1 p1 v rv => by
    cases d with
    | int i => exact ⟨i, rv, p1.here x1.gh⟩
    | _ => exact (show False from p1).elim⟩
theorem de_cut {f : Env → Res D} {fl fh : Env → Res (Option Int)} (ha : DR X W A a f) (hl : DO X W A lo fl) (hh : DO X W A hi fh) : DE X W A (.Subscript a (.Slice lo hi none p2) pos) (eCut f fl fh) := by
  refine (pe_slice (SlR.or sl_tupA (SlR.or sl_list sl_str)) ha hl hh).imp fun σ H Q ⟨e, G, E, p⟩ => ?_
  refine ⟨e, G, E, p.split.imp fun d H1 G1 x1 p1 v rv => ⟨e, G1, E.ext x1, p1.split.imp fun l H2 G2 x2 p2 => ⟨e, G2, (E.ext x1).ext x2, p2.split.imp fun u H3 G3 x3 p3 => ?_⟩⟩⟩
  have rv := (rv.mono x2.hh x2.gg).mono x3.hh x3.gg
  have sg := x3.gh
  cases d with
  | tup ds =>
    obtain ⟨q, vs, eq, s, r⟩ := (show Rep X.K G3 (.tup ds) v from rv)
    refine .inl ⟨q, vs, eq, sg.pt s, fun hw => ?_, fun hw q2 hq => ?_⟩
    · refine PostG.val (d := .tup (cutL ds l u)) p3 sg ⟨q, vs, rfl, s, ?_⟩
      rw [r.length] at hw
      rw [cutL_all hw]
      exact r
    · exact (show PostG X.K X.mg _ H3 G3 (Res.ok (D.tup (cutL ds l u))) _ from p3) _ _ (Ext.laid sg hq) _ ⟨q2, _, rfl, upd_same, (r.cut l u).mono (Sub.upd (sg.free hq))⟩
  | lst ds =>
    obtain ⟨q, vs, eq, s, r⟩ := rv
    refine .inr (.inl ⟨q, vs, eq, s, fun q2 hq => ?_⟩)
    exact (show PostG X.K X.mg _ H3 G3 (Res.ok (D.lst (cutL ds l u))) _ from p3) _ _ (Ext.laid sg hq) _ ⟨q2, _, rfl, SqL.of upd_same, (r.cut l u).mono (Sub.upd (sg.free hq))⟩
  | str z =>
    dsimp only [dCut] at p3
    by_cases hz : z.length ≤ sizeLine
    · rw [if_pos hz] at p3
      exact .inr (.inr ⟨z, rv, hz, p3.val sg rfl⟩)
    · rw [if_neg hz] at p3; exact p3.elim
  | _ => exact (show False from p3).elim
end

/-! ### calls of built-ins -/
def e1 (g : D → Res D) (f : Env → Res D) : Env → Res D := fun e => (f e).bind g
/-- a call of one value: what it does on data -/
def Call1 (X : Cx) (W : WX) (f : Value) (g : D → Res D) : Prop :=
  ∃ r, CallR X f r ∧ ∀ (σ : L2.St) (H G : Hp) (x : V) (dx : D) (Q : VK), Sub G H → RepC X.K H G dx x →
    PostG X.K X.mg (fun c o H' => W c o σ H') H G (g dx) (fun d H' G' => ∀ v, Rep X.K G' d v → Q v H') → r [x] H Q
def Call2 (X : Cx) (W : WX) (f : Value) (g : D → D → Res D) : Prop :=
  ∃ r, CallR X f r ∧ ∀ (σ : L2.St) (H G : Hp) (x y : V) (dx dy : D) (Q : VK), Sub G H → RepC X.K H G dx x → RepC X.K H G dy y →
    PostG X.K X.mg (fun c o H' => W c o σ H') H G (g dx dy) (fun d H' G' => ∀ v, Rep X.K G' d v → Q v H') → r [x, y] H Q
/-- .. that makes a new list or dict -/
def Call1F (X : Cx) (W : WX) (f : Value) (g : D → Res D) : Prop :=
  ∃ r, CallR X f r ∧ ∀ (σ : L2.St) (H G : Hp) (x : V) (dx : D) (Q : VK), Sub G H → RepC X.K H G dx x →
    PostG X.K X.mg (fun c o H' => W c o σ H') H G (g dx) (fun d H' G' => ∀ a, H a = none → G' a = none → OwnC X.K H' G' d a → Q (.ref a) H') → r [x] H Q
section
variable {X : Cx} {W : WX} {A : Nat → Prop} {a b : Expr} {rest : List Expr} {x : Str} {p pos : Pos} {id T : String}
theorem de_b1 {g : D → Res D} {f : Env → Res D} (hc : Call1 X W (.builtin id) g) (hg : Gl X x) (hm : X.mg x = none) (hv : bootBuiltins x = some (.builtin id)) (ha : DR X W A a f) (hn : x ≠ "__name__" := by decide) (hdb : (x == ("__debug__" : Str)) = false := by decide)
    (he : starEach (a :: []) X.env = (false, eval a X.env) :: starEach [] X.env := by rfl) (hpl : (backTo pos (starEach [] X.env)).any (·.1) = false := by rfl) : DE X W A (.Call (.Name x p) [a] [] pos) (e1 g f) := by
  obtain ⟨r, h1, h2⟩ := hc
  exact (pe_callB h1 hg hm hv (pa_cons ha pa_nil he) hn hdb he hpl).imp fun σ H Q ⟨e, G, E, p⟩ => ⟨e, G, E, p.split.imp fun d H1 G1 x1 p1 v rv => h2 σ H1 G1 v d Q x1.gh rv p1⟩
theorem de_t1 {g : D → Res D} {f : Env → Res D} (hc : Call1 X W (.type T) g) (hg : Gl X x) (hm : X.mg x = none) (hv : bootBuiltins x = some (.type T)) (ha : DR X W A a f) (hn : x ≠ "__name__" := by decide) (hdb : (x == ("__debug__" : Str)) = false := by decide)
    (he : starEach (a :: []) X.env = (false, eval a X.env) :: starEach [] X.env := by rfl) (hpl : (backTo pos (starEach [] X.env)).any (·.1) = false := by rfl) : DE X W A (.Call (.Name x p) [a] [] pos) (e1 g f) := by
  obtain ⟨r, h1, h2⟩ := hc
  exact (pe_callTy h1 hg hm hv (pa_cons ha pa_nil he) hn hdb he hpl).imp fun σ H Q ⟨e, G, E, p⟩ => ⟨e, G, E, p.split.imp fun d H1 G1 x1 p1 v rv => h2 σ H1 G1 v d Q x1.gh rv p1⟩
theorem df_b1 {g : D → Res D} {f : Env → Res D} (hc : Call1F X W (.builtin id) g) (hg : Gl X x) (hm : X.mg x = none) (hv : bootBuiltins x = some (.builtin id)) (ha : DR X W A a f) (hn : x ≠ "__name__" := by decide) (hdb : (x == ("__debug__" : Str)) = false := by decide)
    (he : starEach (a :: []) X.env = (false, eval a X.env) :: starEach [] X.env := by rfl) (hpl : (backTo pos (starEach [] X.env)).any (·.1) = false := by rfl) : DF X W A (.Call (.Name x p) [a] [] pos) (e1 g f) := by
  obtain ⟨r, h1, h2⟩ := hc
  exact (pe_callB h1 hg hm hv (pa_cons ha pa_nil he) hn hdb he hpl).imp fun σ H Q ⟨e, G, E, p⟩ => ⟨e, G, E, p.split.imp fun d H1 G1 x1 p1 v rv => h2 σ H1 G1 v d Q x1.gh rv (p1.imp fun z H2 G2 x2 q c hc => q c (x1.hh.free hc))⟩
theorem df_t1 {g : D → Res D} {f : Env → Res D} (hc : Call1F X W (.type T) g) (hg : Gl X x) (hm : X.mg x = none) (hv : bootBuiltins x = some (.type T)) (ha : DR X W A a f) (hn : x ≠ "__name__" := by decide) (hdb : (x == ("__debug__" : Str)) = false := by decide)
    (he : starEach (a :: []) X.env = (false, eval a X.env) :: starEach [] X.env := by rfl) (hpl : (backTo pos (starEach [] X.env)).any (·.1) = false := by rfl) : DF X W A (.Call (.Name x p) [a] [] pos) (e1 g f) := by
  obtain ⟨r, h1, h2⟩ := hc
  exact (pe_callTy h1 hg hm hv (pa_cons ha pa_nil he) hn hdb he hpl).imp fun σ H Q ⟨e, G, E, p⟩ => ⟨e, G, E, p.split.imp fun d H1 G1 x1 p1 v rv => h2 σ H1 G1 v d Q x1.gh rv (p1.imp fun z H2 G2 x2 q c hc => q c (x1.hh.free hc))⟩
theorem de_b2 {g : D → D → Res D} {fa fb : Env → Res D} (hc : Call2 X W (.builtin id) g) (hg : Gl X x) (hm : X.mg x = none) (hv : bootBuiltins x = some (.builtin id)) (ha : DR X W A a fa) (hb : DR X W A b fb) (hn : x ≠ "__name__" := by decide) (hdb : (x == ("__debug__" : Str)) = false := by decide)
    (he : starEach (a :: [b]) X.env = (false, eval a X.env) :: starEach [b] X.env := by rfl) (he2 : starEach (b :: []) X.env = (false, eval b X.env) :: starEach [] X.env := by rfl) (hpl : (backTo pos (starEach [b] X.env)).any (·.1) = false := by rfl) : DE X W A (.Call (.Name x p) [a, b] [] pos) (eOp g fa fb) := by
  obtain ⟨r, h1, h2⟩ := hc
  refine (pe_callB h1 hg hm hv (pa_cons ha (pa_cons hb pa_nil he2) he) hn hdb he hpl).imp fun σ H Q ⟨e, G, E, p⟩ => ?_
  refine ⟨e, G, E, p.split.imp fun d H1 G1 x1 p1 v rv => ⟨e, G1, E.ext x1, p1.split.imp fun d2 H2 G2 x2 p2 u ru => h2 σ H2 G2 v u d d2 Q x2.gh (rv.mono x2.hh x2.gg) ru p2⟩⟩

/-! len, abs, max, min, int, list, tuple, sum .. -/
def rLenD : List V → Hp → VK → Prop := fun xs H Q => ∃ a n, xs = [V.ref a] ∧ ((∃ kvs, Rd H a (.dK kvs) ∧ n = kvs.length) ∨ ∃ kvs, Rd H a (.dT kvs) ∧ n = kvs.length) ∧ Q (.int ((n : Nat) : Int)) H
theorem cr_lenD : CallR X (.builtin "len") rLenD := by
  intro pins s σ H xs us Q I r h
  obtain ⟨a, n, rfl, hd, q⟩ := h
  obtain ⟨u, rfl, rx⟩ := vals1 r
  obtain rfl : u = .ref a := rx
  rcases hd with ⟨kvs, hk, rfl⟩ | ⟨kvs, hk, rfl⟩
  · exact d_len I hk fun t s' I' => ⟨.int _, H, I', ⟨_, rfl⟩, q⟩
  · obtain ⟨z, hd, ys, rel, dd⟩ := dt_rd I.hok hk
    have hl : kvs.length = ys.length := Paired.length rel
    refine call_len_dictH hd dd (by rw [← hl]; rw [PySem.sizeLine_eq] at z; omega) ?_
    rw [← hl]
    exact ⟨.int ((kvs.length : Nat) : Int), H, I.tok _, ⟨_, rfl⟩, q⟩
def dLen : D → Res D
  | .lst xs => .ok (.int xs.length)
  | .tup xs => .ok (.int xs.length)
  | .con xs => .ok (.int xs.length)
  | .str x => if x.length ≤ sizeLine then .ok (.int x.length) else .bad
  | .dct _ kvs => .ok (.int kvs.length)
  | _ => .bad
theorem c1_len : Call1 X W (.builtin "len") dLen := by
  refine ⟨_, CallR.or call_len cr_lenD, fun σ H G x dx Q sg rx p => ?_⟩
  cases dx with
  | lst ds =>
    obtain ⟨q, vs, e, s, r⟩ := rx
    subst e
    refine .inl ⟨_, vs.length, rfl, .inl ⟨vs, s, rfl⟩, ?_⟩
    rw [r.length]
    exact PostG.val (d := .int ds.length) p sg rfl
  | tup ds =>
    obtain ⟨q, vs, e, s, r⟩ := (show Rep X.K G (.tup ds) x from rx)
    subst e
    refine .inl ⟨_, vs.length, rfl, .inr ⟨vs, sg.pt s, rfl⟩, ?_⟩
    rw [r.length]
    exact PostG.val (d := .int ds.length) p sg rfl
  | con ds =>
    obtain ⟨q, vs, e, s, r⟩ := (show Rep X.K G (.con ds) x from rx)
    subst e
    refine .inl ⟨_, vs.length, rfl, .inr ⟨vs, sg.sqt s, rfl⟩, ?_⟩
    rw [r.length]
    exact PostG.val (d := .int ds.length) p sg rfl
  | dct t kvs =>
    obtain ⟨a, e, h⟩ := rx
    subst e
    have p' : Q (.int ((kvs.length : Nat) : Int)) H := PostG.val (d := .int kvs.length) p sg rfl
    rcases h with ⟨_, ps, h1, h2, _⟩ | ⟨_, ps, h1, h2, _⟩
    · have hl := congrArg List.length h2
      rw [List.length_map, List.length_map] at hl
      exact .inr ⟨a, ps.length, rfl, .inl ⟨ps, h1, rfl⟩, by rw [← hl]; exact p'⟩
    · have hl := congrArg List.length h2
      rw [List.length_map, List.length_map] at hl
      exact .inr ⟨a, ps.length, rfl, .inr ⟨ps, h1, rfl⟩, by rw [← hl]; exact p'⟩
  | str z =>
    have : x = .str z := rx
    subst this
    dsimp only [dLen] at p
    by_cases hz : z.length ≤ sizeLine
    · rw [if_pos hz] at p
      exact .inl ⟨_, z.length, rfl, ⟨hz, rfl⟩, p.val sg rfl⟩
    · rw [if_neg hz] at p; exact p.elim
  | _ => exact (show False from p).elim
def dAbs : D → Res D
  | .int i => .ok (.int (if i < 0 then -i else i))
  | _ => .bad
theorem c1_abs : Call1 X W (.builtin "abs") dAbs := by
  refine ⟨_, call_abs, fun σ H G x dx Q sg rx p => ?_⟩
  cases dx with
  | int i =>
    have : x = .int i := rx
    subst this
    exact ⟨i, rfl, PostG.val (d := .int (if i < 0 then -i else i)) p sg rfl⟩
  | _ => exact (show False from p).elim
def dInt : D → Res D
  | .int i => .ok (.int i)
  | .bl b => .ok (.int (if b = true then 1 else 0))
  | _ => .bad
theorem c1_int : Call1 X W (.type "int") dInt := by
  refine ⟨_, call_int1, fun σ H G x dx Q sg rx p => ?_⟩
  cases dx with
  | int i =>
    have : x = .int i := rx
    subst this
    exact .inl ⟨i, rfl, PostG.val (d := .int i) p sg rfl⟩
  | bl b =>
    have : x = .bl b := rx
    subst this
    exact .inr ⟨b, rfl, PostG.val (d := .int (if b = true then 1 else 0)) p sg rfl⟩
  | _ => exact (show False from p).elim
def dMax : D → D → Res D
  | .int i, .int j => .ok (.int (if j > i then j else i))
  | _, _ => .bad
def dMin : D → D → Res D
  | .int i, .int j => .ok (.int (if j < i then j else i))
  | _, _ => .bad
theorem c2_max (hc : X.calm = true) : Call2 X W (.builtin "max") dMax := by
  refine ⟨_, call_max2 hc, fun σ H G x y dx dy Q sg rx ry p => ?_⟩
  cases dx with
  | int i =>
    cases dy with
    | int j =>
      have h1 : x = .int i := rx
      have h2 : y = .int j := ry
      subst h1 h2
      exact ⟨i, j, rfl, PostG.val (d := .int (if j > i then j else i)) p sg rfl⟩
    | _ => exact (show False from p).elim
  | _ => exact (show False from p).elim
theorem c2_min (hc : X.calm = true) : Call2 X W (.builtin "min") dMin := by
  refine ⟨_, call_min2 hc, fun σ H G x y dx dy Q sg rx ry p => ?_⟩
  cases dx with
  | int i =>
    cases dy with
    | int j =>
      have h1 : x = .int i := rx
      have h2 : y = .int j := ry
      subst h1 h2
      exact ⟨i, j, rfl, PostG.val (d := .int (if j < i then j else i)) p sg rfl⟩
    | _ => exact (show False from p).elim
  | _ => exact (show False from p).elim
def dTuple : D → Res D
  | .lst xs => .ok (.tup xs)
  | .tup xs => .ok (.tup xs)
  | .con xs => .ok (.con xs)
  | _ => .bad
theorem c1_tuple : Call1 X W (.type "tuple") dTuple := by
  refine ⟨_, call_tuple_of, fun σ H G x dx Q sg rx p => ?_⟩
  cases dx with
  | lst ds =>
    obtain ⟨q, vs, e, s, r⟩ := rx
    subst e
    refine ⟨q, vs, rfl, .inl ⟨s, fun l hl => ?_⟩⟩
    exact (show PostG X.K X.mg _ H G (Res.ok (D.tup ds)) _ from p) _ _ (Ext.laid sg hl) _ ⟨l, vs, rfl, upd_same, r.mono (Sub.upd (sg.free hl))⟩
  | tup ds =>
    have rx : Rep X.K G (.tup ds) x := rx
    obtain ⟨q, vs, e, s, r⟩ := id rx
    subst e
    exact ⟨q, vs, rfl, .inr ⟨sg.pt s, PostG.val (d := .tup ds) p sg rx⟩⟩
  | con ds =>
    have rx : Rep X.K G (.con ds) x := rx
    obtain ⟨q, vs, e, s, r⟩ := id rx
    subst e
    exact ⟨q, vs, rfl, .inr ⟨sg.sqt s, PostG.val (d := .con ds) p sg rx⟩⟩
  | _ => exact (show False from p).elim
def dList : D → Res D
  | .lst xs => .ok (.lst xs)
  | .tup xs => .ok (.lst xs)
  | .con xs => .ok (.lst xs)
  | _ => .bad
theorem c1_list : Call1F X W (.type "list") dList := by
  refine ⟨_, call_list_of, fun σ H G x dx Q sg rx p => ?_⟩
  have fin : ∀ (ds : List D) (vs : List V), RepL X.K G ds vs → PostG X.K X.mg (fun c o H' => W c o σ H') H G (Res.ok (D.lst ds)) (fun d H' G' => ∀ a, H a = none → G' a = none → OwnC X.K H' G' d a → Q (.ref a) H') → ∀ l, H l = none → Q (.ref l) (upd H l (.lst vs)) :=
    fun ds vs r p l hl => p (upd H l (.lst vs)) G ⟨Sub.upd hl, Sub.refl _, sg.trans (Sub.upd hl), fun b z => .inl z⟩ l hl (sg.free hl) ⟨vs, upd_same, r⟩
  cases dx with
  | lst ds =>
    obtain ⟨q, vs, e, s, r⟩ := rx
    subst e
    exact ⟨q, vs, rfl, .inl s, fin ds vs r p⟩
  | tup ds =>
    obtain ⟨q, vs, e, s, r⟩ := (show Rep X.K G (.tup ds) x from rx)
    subst e
    exact ⟨q, vs, rfl, .inr (sg.pt s), fin ds vs r p⟩
  | con ds =>
    obtain ⟨q, vs, e, s, r⟩ := (show Rep X.K G (.con ds) x from rx)
    subst e
    exact ⟨q, vs, rfl, .inr (sg.sqt s), fin ds vs r p⟩
  | _ => exact (show False from p).elim
/-- the ints of a list of ints -/
def D.ints : List D → Option (List Int)
  | [] => some []
  | .int i :: r => (D.ints r).map fun ns => i :: ns
  | _ :: _ => none
theorem ints_eq : ∀ {ds : List D} {ns : List Int}, D.ints ds = some ns → ds = ns.map D.int
  | [], ns, h => by cases h; rfl
  | d :: r, ns, h => by
    cases d with
    | int i =>
      dsimp only [D.ints] at h
      cases e : D.ints r with
      | none => rw [e] at h; cases h
      | some ms => rw [e] at h; cases h; rw [ints_eq e]; rfl
    | _ => cases h
@[simp] theorem ints_map : ∀ ns : List Int, D.ints (ns.map D.int) = some ns
  | [] => rfl
  | n :: r => by show (D.ints (r.map D.int)).map _ = _; rw [ints_map r]; rfl
def D.bls : List D → Option (List Bool)
  | [] => some []
  | .bl i :: r => (D.bls r).map fun ns => i :: ns
  | _ :: _ => none
theorem bls_eq : ∀ {ds : List D} {ns : List Bool}, D.bls ds = some ns → ds = ns.map D.bl
  | [], ns, h => by cases h; rfl
  | d :: r, ns, h => by
    cases d with
    | bl i =>
      dsimp only [D.bls] at h
      cases e : D.bls r with
      | none => rw [e] at h; cases h
      | some ms => rw [e] at h; cases h; rw [bls_eq e]; rfl
    | _ => cases h
@[simp] theorem bls_map : ∀ ns : List Bool, D.bls (ns.map D.bl) = some ns
  | [] => rfl
  | n :: r => by show (D.bls (r.map D.bl)).map _ = _; rw [bls_map r]; rfl
def dSum : D → Res D
  | .lst xs => match D.ints xs with
    | some ns => .ok (.int ns.sum)
    | none => .bad
  | _ => .bad
theorem c1_sum (hc : X.calm = true) : Call1 X W (.builtin "sum") dSum := by
  refine ⟨_, cr_sum hc, fun σ H G x dx Q sg rx p => ?_⟩
  cases dx with
  | lst ds =>
    obtain ⟨q, vs, e, s, r⟩ := rx
    subst e
    dsimp only [dSum] at p
    cases hi : D.ints ds with
    | none => rw [hi] at p; exact p.elim
    | some ns =>
      rw [hi] at p
      rw [ints_eq hi] at r
      rw [r.ints] at s
      exact ⟨q, ns, rfl, s, p.val sg rfl⟩
  | _ => exact (show False from p).elim
def dAll : D → Res D
  | .lst xs => match D.bls xs with
    | some ns => .ok (.bl (ns.all _root_.id))
    | none => .bad
  | _ => .bad
def dAny : D → Res D
  | .lst xs => match D.bls xs with
    | some ns => .ok (.bl (ns.any _root_.id))
    | none => .bad
  | _ => .bad
theorem c1_all (hc : X.calm = true) : Call1 X W (.builtin "all") dAll := by
  refine ⟨_, cr_all hc, fun σ H G x dx Q sg rx p => ?_⟩
  cases dx with
  | lst ds =>
    obtain ⟨q, vs, e, s, r⟩ := rx
    subst e
    dsimp only [dAll] at p
    cases hi : D.bls ds with
    | none => rw [hi] at p; exact p.elim
    | some ns =>
      rw [hi] at p
      rw [bls_eq hi] at r
      rw [r.bls] at s
      exact ⟨q, ns, rfl, s, p.val sg rfl⟩
  | _ => exact (show False from p).elim
theorem c1_any (hc : X.calm = true) : Call1 X W (.builtin "any") dAny := by
  refine ⟨_, cr_any hc, fun σ H G x dx Q sg rx p => ?_⟩
  cases dx with
  | lst ds =>
    obtain ⟨q, vs, e, s, r⟩ := rx
    subst e
    dsimp only [dAny] at p
    cases hi : D.bls ds with
    | none => rw [hi] at p; exact p.elim
    | some ns =>
      rw [hi] at p
      rw [bls_eq hi] at r
      rw [r.bls] at s
      exact ⟨q, ns, rfl, s, p.val sg rfl⟩
  | _ => exact (show False from p).elim
end
end DL

namespace DL
open PySem PySem.Spec PyProof.Rows L2
open PySem.Builtin.Int (intBits)

/-! ### statements -/
inductive Out where
  | nx (e : Env)
  | rt (d : D)
  | ro (d : D)
  | rm (d : D) (e : Env)
  | bk (e : Env)
  | ct (e : Env)
  | ex (c : String) (fs : List D) (e : Env)
  | bad

def unown (i : Nat) (e : Env) : Env := match e[i]? with
  | some (some (d, true)) => e.set i (some (d, false))
  | _ => e
/-- these names' lists and dicts are not changed any more -/
def fz : List Nat → Env → Env
  | [], e => e
  | i :: r, e => fz r (unown i e)
@[simp] theorem fz_nil (e : Env) : fz [] e = e := rfl
theorem unown_get (i : Nat) (e : Env) (j : Nat) : (unown i e)[j]? = if j = i then (match e[j]? with | some (some (d, _)) => some (some (d, false)) | z => z) else e[j]? := by
  unfold unown
  by_cases h : j = i
  · subst h
    rw [if_pos rfl]
    cases q : e[j]? with
    | none => simp only [q]
    | some s =>
      have hl : j < e.length := (List.getElem?_eq_some_iff.mp q).1
      cases s with
      | none => simp only [q]
      | some z =>
        obtain ⟨d, o⟩ := z
        cases o with
        | true => simp only []; rw [List.getElem?_set_self hl]
        | false => simp only [q]
  · rw [if_neg h]
    split
    · rw [List.getElem?_set_ne (Ne.symm h)]
    · rfl
theorem unown_length (i : Nat) (e : Env) : (unown i e).length = e.length := by
  unfold unown
  split
  · rw [List.length_set]
  · rfl
theorem fz_length : ∀ (al : List Nat) (e : Env), (fz al e).length = e.length
  | [], e => rfl
  | i :: r, e => by rw [fz, fz_length r, unown_length]
theorem fz_get : ∀ (al : List Nat) (e : Env) (j : Nat) (d : D) (o : Bool), (fz al e)[j]? = some (some (d, o)) → ∃ o', e[j]? = some (some (d, o')) ∧ ((o = o' ∧ (o' = true → j ∉ al)) ∨ (o = false ∧ o' = true ∧ j ∈ al))
  | [], e, j, d, o, h => ⟨o, h, .inl ⟨rfl, fun _ => by simp⟩⟩
  | i :: r, e, j, d, o, h => by
    obtain ⟨o1, h1, h2⟩ := fz_get r (unown i e) j d o h
    rw [unown_get] at h1
    by_cases hj : j = i
    · rw [if_pos hj] at h1
      cases q : e[j]? with
      | none => rw [q] at h1; cases h1
      | some s => cases s with
        | none => rw [q] at h1; cases h1
        | some z =>
          obtain ⟨d', o'⟩ := z
          rw [q] at h1
          cases h1
          rcases h2 with ⟨rfl, _⟩ | ⟨_, z, _⟩
          · cases o' with
            | true => exact ⟨true, rfl, .inr ⟨rfl, rfl, by simp [hj]⟩⟩
            | false => exact ⟨false, rfl, .inl ⟨rfl, fun z => by cases z⟩⟩
          · cases z
    · rw [if_neg hj] at h1
      refine ⟨o1, h1, ?_⟩
      rcases h2 with ⟨a, b⟩ | ⟨a, b, c⟩
      · exact .inl ⟨a, fun z => by simp [hj, b z]⟩
      · exact .inr ⟨a, b, by simp [c]⟩

/-- a def's entry: the caller's part of the heap, and where the lists and dicts stand that are lent to it to be changed -/
structure Bas where
  hp : Hp
  pin : Nat → Option Addr
/-- nothing is lent -/
abbrev Bas.of (H : Hp) : Bas := ⟨H, fun _ => none⟩
/-- the state between two statements: H0, G0 at the def's entry -/
structure StOk (K : PySem.W.Frag) (H0 : Bas) (G0 : Hp) (σ : L2.St) (e : Env) (H G : Hp) : Prop where
  ext : Ext H0.hp G0 H G
  len : σ.length = e.length
  sh : ∀ (i : Nat) d, e[i]? = some (some (d, false)) → ∃ v, σ[i]? = some (some v) ∧ Rep K G d v
  ow : ∀ (i : Nat) d, e[i]? = some (some (d, true)) → ∃ a, σ[i]? = some (some (.ref a)) ∧ H0.hp a = none ∧ G a = none ∧ OwnC K H G d a
  ne : ∀ (i j : Nat) d d' a, e[i]? = some (some (d, true)) → e[j]? = some (some (d', true)) → σ[i]? = some (some (.ref a)) → σ[j]? = some (some (.ref a)) → i = j
  pn : ∀ (i : Nat) a d, H0.pin i = some a → e[i]? = some (some (d, true)) → σ[i]? = some (some (.ref a))
/-- what a reckoning of the names at al may keep -/
def OwnAt (σ : L2.St) (e : Env) (al : List Nat) (b : Addr) : Prop := ∃ (i : Nat) (d : D), i ∈ al ∧ e[i]? = some (some (d, true)) ∧ σ[i]? = some (some (.ref b))
open Classical in
noncomputable def gA (σ : L2.St) (e : Env) (al : List Nat) (H G : Hp) : Hp := fun b => if OwnAt σ e al b then H b else G b
/-- no dict at al is owned -/
def NoDct (al : List Nat) (e : Env) : Prop := ∀ (i : Nat) d, i ∈ al → e[i]? = some (some (d, true)) → d.isDct = false
theorem StOk.exp0 {K : PySem.W.Frag} {H0 : Bas} {G0 H G : Hp} {σ : L2.St} {e : Env} (S : StOk K H0 G0 σ e H G) (al : List Nat) (nd : NoDct al e) :
    ∃ GA, EnvG K (fun i => i ∈ al) σ e H GA ∧ ∀ H' G', Ext H GA H' G' → StOk K H0 G0 σ (fz al e) H' G' := by
  have yes : ∀ {b : Addr}, OwnAt σ e al b → gA σ e al H G b = H b := fun h => if_pos h
  have no : ∀ {b : Addr}, ¬ OwnAt σ e al b → gA σ e al H G b = G b := fun h => if_neg h
  have gown : ∀ {b : Addr}, OwnAt σ e al b → G b = none := fun {b} ⟨i, d, _, h1, h2⟩ => by
    obtain ⟨a, q1, _, q2, _⟩ := S.ow i d h1
    rw [h2] at q1; cases q1; exact q2
  have s1 : Sub G (gA σ e al H G) := fun b o q => by
    by_cases h : OwnAt σ e al b
    · rw [gown h] at q; cases q
    · rw [no h]; exact q
  have s2 : Sub (gA σ e al H G) H := fun b o q => by
    by_cases h : OwnAt σ e al b
    · rw [yes h] at q; exact q
    · rw [no h] at q; exact S.ext.gh _ _ q
  have keep : ∀ (i : Nat) (d : D), i ∈ al → e[i]? = some (some (d, true)) → ∃ v, σ[i]? = some (some v) ∧ Rep K (gA σ e al H G) d v := fun i d hi h => by
    obtain ⟨a, q1, _, _, q5⟩ := S.ow i d h
    exact ⟨_, q1, q5.put (nd i d hi h) s1 (yes ⟨i, d, hi, h, q1⟩)⟩
  refine ⟨gA σ e al H G, ⟨s2, S.len, fun i d o h => ?_⟩, fun H' G' x => ?_⟩
  · cases o with
    | false =>
      obtain ⟨v, q1, q2⟩ := S.sh i d h
      exact ⟨v, q1, fun _ => q2.mono s1, (q2.c S.ext.gh).mono (Sub.refl _) s1⟩
    | true =>
      obtain ⟨a, q1, q2, q3, q5⟩ := S.ow i d h
      refine ⟨_, q1, fun z => ?_, q5.c.mono (Sub.refl _) s1⟩
      rcases z with z | z
      · exact q5.put (nd i d z h) s1 (yes ⟨i, d, z, h, q1⟩)
      · cases z
  · refine ⟨⟨S.ext.hh.trans x.hh, S.ext.gg.trans (s1.trans x.gg), x.gh, fun b z => ?_⟩, by rw [fz_length]; exact S.len, fun i d h => ?_, fun i d h => ?_, fun i j d d' a h1 h2 h3 h4 => ?_, fun i a d hp h => ?_⟩
    · rcases x.new b z with z | z
      · by_cases h : OwnAt σ e al b
        · obtain ⟨i, d, _, h1, h2⟩ := h
          obtain ⟨a, q1, q2, _⟩ := S.ow i d h1
          rw [h2] at q1; cases q1; exact .inr (.inl q2)
        · rw [no h] at z; exact S.ext.new b z
      · exact .inr (z.back S.ext.hh)
    · obtain ⟨o', h1, h2⟩ := fz_get al e i d false h
      rcases h2 with ⟨rfl, _⟩ | ⟨_, rfl, hi⟩
      · obtain ⟨v, q1, q2⟩ := S.sh i d h1
        exact ⟨v, q1, q2.mono (s1.trans x.gg)⟩
      · obtain ⟨v, q1, q2⟩ := keep i d hi h1
        exact ⟨v, q1, q2.mono x.gg⟩
    · obtain ⟨o', h1, h2⟩ := fz_get al e i d true h
      rcases h2 with ⟨rfl, hi⟩ | ⟨z, _⟩
      · obtain ⟨a, q1, q2, q3, q5⟩ := S.ow i d h1
        refine ⟨a, q1, q2, ?_, q5.mono x.hh (s1.trans x.gg)⟩
        cases hg : G' a with
        | none => rfl
        | some u =>
          rcases x.new a (by rw [hg]; simp) with z | z
          · have nown : ¬ OwnAt σ e al a := fun ⟨j, d', hj, w1, w2⟩ => hi rfl (by rw [S.ne i j d d' a h1 w1 q1 w2]; exact hj)
            rw [no nown] at z
            exact absurd q3 z
          · exact absurd z q5.nfr
      · cases z
    · obtain ⟨o1, w1, z1⟩ := fz_get al e i d true h1
      obtain ⟨o2, w2, z2⟩ := fz_get al e j d' true h2
      have e1 : o1 = true := by rcases z1 with ⟨z, _⟩ | ⟨z, _⟩; exact z.symm; cases z
      have e2 : o2 = true := by rcases z2 with ⟨z, _⟩ | ⟨z, _⟩; exact z.symm; cases z
      subst e1 e2
      exact S.ne i j d d' a w1 w2 h3 h4
    · obtain ⟨o1, w1, z1⟩ := fz_get al e i d true h
      have e1 : o1 = true := by rcases z1 with ⟨z, _⟩ | ⟨z, _⟩; exact z.symm; cases z
      subst e1
      exact S.pn i a d hp w1

theorem set_get {α : Type} {e : List α} {i j : Nat} {x y : α} (h : (e.set i x)[j]? = some y) : (j = i ∧ y = x) ∨ (j ≠ i ∧ e[j]? = some y) := by
  by_cases hj : j = i
  · subst hj
    by_cases hl : j < e.length
    · rw [List.getElem?_set_self hl] at h; cases h; exact .inl ⟨rfl, rfl⟩
    · rw [List.getElem?_eq_none (by simpa using hl)] at h; cases h
  · rw [List.getElem?_set_ne (Ne.symm hj)] at h; exact .inr ⟨hj, h⟩
/-! the dicts at al are locked -/
def unownD (i : Nat) (e : Env) : Env := match e[i]? with
  | some (some (.dct t kvs, true)) => e.set i (some (.dct t kvs, false))
  | _ => e
def fzD : List Nat → Env → Env
  | [], e => e
  | i :: r, e => fzD r (unownD i e)
theorem unownD_get (i : Nat) (e : Env) (j : Nat) (d : D) (o : Bool) (h : (unownD i e)[j]? = some (some (d, o))) : ∃ o', e[j]? = some (some (d, o')) ∧ ((o = o' ∧ (o' = true → j = i → d.isDct = false)) ∨ (o = false ∧ o' = true ∧ j = i)) := by
  unfold unownD at h
  split at h
  · rename_i t kvs he
    by_cases hj : j = i
    · subst hj
      have hl : j < e.length := (List.getElem?_eq_some_iff.mp he).1
      rw [List.getElem?_set_self hl] at h
      cases h
      exact ⟨true, he, .inr ⟨rfl, rfl, rfl⟩⟩
    · rw [List.getElem?_set_ne (Ne.symm hj)] at h
      exact ⟨o, h, .inl ⟨rfl, fun _ z => absurd z hj⟩⟩
  · rename_i hn
    refine ⟨o, h, .inl ⟨rfl, fun z w => ?_⟩⟩
    subst z w
    cases d with
    | dct t kvs => exact absurd h (hn t kvs)
    | _ => rfl
theorem fzD_length : ∀ (al : List Nat) (e : Env), (fzD al e).length = e.length
  | [], e => rfl
  | i :: r, e => by
    rw [fzD, fzD_length r]
    unfold unownD
    split
    · rw [List.length_set]
    · rfl
theorem fzD_get : ∀ (al : List Nat) (e : Env) (j : Nat) (d : D) (o : Bool), (fzD al e)[j]? = some (some (d, o)) → ∃ o', e[j]? = some (some (d, o')) ∧ ((o = o' ∧ (o' = true → j ∈ al → d.isDct = false)) ∨ (o = false ∧ o' = true ∧ j ∈ al))
  | [], e, j, d, o, h => ⟨o, h, .inl ⟨rfl, fun _ z => by cases z⟩⟩
  | i :: r, e, j, d, o, h => by
    obtain ⟨o1, h1, h2⟩ := fzD_get r (unownD i e) j d o h
    obtain ⟨o2, h3, h4⟩ := unownD_get i e j d o1 h1
    refine ⟨o2, h3, ?_⟩
    rcases h2 with ⟨rfl, a⟩ | ⟨rfl, rfl, a⟩
    · rcases h4 with ⟨rfl, b⟩ | ⟨rfl, rfl, rfl⟩
      · refine .inl ⟨rfl, fun z w => ?_⟩
        rcases List.mem_cons.mp w with w | w
        · exact b z w
        · exact a z w
      · exact .inr ⟨rfl, rfl, List.mem_cons_self⟩
    · rcases h4 with ⟨rfl, b⟩ | ⟨z, _, _⟩
      · exact .inr ⟨rfl, rfl, List.mem_cons_of_mem _ a⟩
      · cases z
theorem fzD_keep : ∀ (al : List Nat) (e : Env) (j : Nat) (d : D) (o : Bool), e[j]? = some (some (d, o)) → ∃ o', (fzD al e)[j]? = some (some (d, o')) ∧ (o = false → o' = false)
  | [], e, j, d, o, h => ⟨o, h, id⟩
  | i :: r, e, j, d, o, h => by
    have step : ∃ o', (unownD i e)[j]? = some (some (d, o')) ∧ (o = false → o' = false) := by
      unfold unownD
      split
      · rename_i t kvs he
        by_cases hj : j = i
        · subst hj
          have hl : j < e.length := (List.getElem?_eq_some_iff.mp he).1
          rw [he] at h; cases h
          exact ⟨false, List.getElem?_set_self hl, fun _ => rfl⟩
        · exact ⟨o, by rw [List.getElem?_set_ne (Ne.symm hj)]; exact h, id⟩
      · exact ⟨o, h, id⟩
    obtain ⟨o1, h1, h2⟩ := step
    obtain ⟨o2, h3, h4⟩ := fzD_keep r (unownD i e) j d o1 h1
    exact ⟨o2, h3, fun z => h4 (h2 z)⟩
theorem fzD_none : ∀ (al : List Nat) (e : Env) (j : Nat), (∀ d o, e[j]? ≠ some (some (d, o))) → (fzD al e)[j]? = e[j]?
  | [], e, j, h => rfl
  | i :: r, e, j, h => by
    have step : (unownD i e)[j]? = e[j]? := by
      unfold unownD
      split
      · rename_i t kvs he
        by_cases hj : j = i
        · subst hj; exact absurd he (h _ _)
        · rw [List.getElem?_set_ne (Ne.symm hj)]
      · rfl
    rw [fzD, fzD_none r (unownD i e) j (fun d o => by rw [step]; exact h d o), step]
/-- the flags alone are other -/
theorem env_ext {a b : Env} (h : ∀ j : Nat, a[j]? = b[j]?) : a = b := List.ext_getElem? h
theorem fz_is (al : List Nat) (e : Env) (j : Nat) (d : D) (o : Bool) (h : e[j]? = some (some (d, o))) : (fz al e)[j]? = some (some (d, if j ∈ al then false else o)) := by
  induction al generalizing e o with
  | nil => rw [if_neg (by simp)]; exact h
  | cons i r ih =>
    rw [fz]
    have hu : (unown i e)[j]? = some (some (d, if j = i then false else o)) := by
      rw [unown_get]
      by_cases hj : j = i
      · rw [if_pos hj, h, if_pos hj]
      · rw [if_neg hj, h, if_neg hj]
    rw [ih _ _ hu]
    by_cases h1 : j ∈ r
    · rw [if_pos h1, if_pos (List.mem_cons_of_mem _ h1)]
    · rw [if_neg h1]
      by_cases h2 : j = i
      · rw [if_pos h2, if_pos (by simp [h2])]
      · rw [if_neg h2, if_neg (by simp [h1, h2])]
theorem fz_none (al : List Nat) (e : Env) (j : Nat) (h : ∀ d o, e[j]? ≠ some (some (d, o))) : (fz al e)[j]? = e[j]? := by
  induction al generalizing e with
  | nil => rfl
  | cons i r ih =>
    have step : (unown i e)[j]? = e[j]? := by
      rw [unown_get]
      by_cases hj : j = i
      · rw [if_pos hj]
        split
        · rename_i d o he; exact absurd he (h d o)
        · rfl
      · rw [if_neg hj]
    rw [fz, ih _ (fun d o => by rw [step]; exact h d o), step]
theorem fz_fzD (al : List Nat) (e : Env) : fz al (fzD al e) = fz al e := env_ext fun j => by
  by_cases h : ∃ d o, e[j]? = some (some (d, o))
  · obtain ⟨d, o, h⟩ := h
    obtain ⟨o1, h1, h2⟩ := fzD_keep al e j d o h
    obtain ⟨o2, h3, h4⟩ := fzD_get al e j d o1 h1
    rw [h] at h3; cases h3
    rw [fz_is al _ j d o1 h1, fz_is al e j d o h]
    by_cases hj : j ∈ al
    · rw [if_pos hj, if_pos hj]
    · rw [if_neg hj, if_neg hj]
      rcases h4 with ⟨rfl, _⟩ | ⟨_, _, z⟩
      · rfl
      · exact absurd z hj
  · have n : ∀ d o, e[j]? ≠ some (some (d, o)) := fun d o z => h ⟨d, o, z⟩
    have n2 := fzD_none al e j n
    rw [fz_none al _ j (fun d o => by rw [n2]; exact n d o), fz_none al e j n, n2]
theorem fzD_nd (al : List Nat) (e : Env) : NoDct al (fzD al e) := fun i d hi h => by
  obtain ⟨o', h1, h2⟩ := fzD_get al e i d true h
  rcases h2 with ⟨rfl, z⟩ | ⟨z, _⟩
  · exact z rfl hi
  · cases z
theorem StOk.lock {K : PySem.W.Frag} {H0 : Bas} {G0 : Hp} {σ : L2.St} : ∀ (al : List Nat) {e : Env} {H G : Hp}, StOk K H0 G0 σ e H G → LockT (fun H1 => ∃ G1, StOk K H0 G0 σ (fzD al e) H1 G1) H
  | [], _, _, G, S => .here ⟨G, S⟩
  | i :: r, e, H, G, S => by
    have step : LockT (fun H1 => ∃ G1, StOk K H0 G0 σ (unownD i e) H1 G1) H := by
      unfold unownD
      split
      · rename_i t kvs he
        obtain ⟨a, q1, q2, q3, q5⟩ := S.ow i _ he
        obtain ⟨u, hu, mu, _⟩ := q5.lock rfl (Sub.refl G)
        refine .lock hu mu fun od => .here ⟨upd G a (.frz od u), ?_⟩
        have sg : Sub G (upd G a (.frz od u)) := Sub.upd q3
        have n0 : ∀ {b o}, H0.hp b = some o → b ≠ a := fun {b o} z w => by rw [w, q2] at z; cases z
        refine ⟨⟨fun b o z => by rw [upd_ne (n0 z)]; exact S.ext.hh _ _ z, S.ext.gg.trans sg, fun b o z => ?_, fun b z => ?_⟩, by rw [List.length_set]; exact S.len, fun j d' h => ?_, fun j d' h => ?_, fun j k d1 d2 b h1 h2 h3 h4 => ?_, fun j b d' hp h => ?_⟩
        · by_cases hb : b = a
          · subst hb; rw [upd_same] at z ⊢; exact z
          · rw [upd_ne hb] at z ⊢; exact S.ext.gh _ _ z
        · by_cases hb : b = a
          · subst hb; exact .inr (.inl q2)
          · rw [upd_ne hb] at z; exact S.ext.new b z
        · rcases set_get h with ⟨rfl, z⟩ | ⟨hj, z⟩
          · cases z
            obtain ⟨u', hu', _, k⟩ := q5.lock rfl sg
            rw [hu] at hu'; cases hu'
            exact ⟨_, q1, k od upd_same⟩
          · obtain ⟨v, w1, w2⟩ := S.sh j d' z
            exact ⟨v, w1, w2.mono sg⟩
        · rcases set_get h with ⟨_, z⟩ | ⟨hj, z⟩
          · cases z
          · obtain ⟨b, w1, w2, w3, w4⟩ := S.ow j d' z
            have nb : b ≠ a := fun q => hj (S.ne j i d' _ a z he (by rw [w1, q]) q1)
            exact ⟨b, w1, w2, by rw [upd_ne nb]; exact w3, w4.mono' (fun o' z => by rw [upd_ne nb]; exact z) sg⟩
        · rcases set_get h1 with ⟨_, z⟩ | ⟨hj, z1⟩
          · cases z
          · rcases set_get h2 with ⟨_, z⟩ | ⟨hk, z2⟩
            · cases z
            · exact S.ne j k d1 d2 b z1 z2 h3 h4
        · rcases set_get h with ⟨_, z⟩ | ⟨hj, z⟩
          · cases z
          · exact S.pn j b d' hp z
      · exact .here ⟨G, S⟩
    exact step.bind fun H1 ⟨G1, S1⟩ => StOk.lock r S1
theorem fz_fzD_own {al : List Nat} {e : Env} {j : Nat} {d : D} (h : (fz al e)[j]? = some (some (d, true))) : (fzD al e)[j]? = some (some (d, true)) := by
  rw [← fz_fzD] at h
  obtain ⟨o', w1, w2⟩ := fz_get al _ j d true h
  have e1 : o' = true := by rcases w2 with ⟨z, _⟩ | ⟨z, _⟩; exact z.symm; cases z
  rw [e1] at w1
  exact w1
/-- a reckoning's state: the dicts that are handed on are locked -/
theorem StOk.exp {K : PySem.W.Frag} {H0 : Bas} {G0 H G : Hp} {σ : L2.St} {e : Env} (S : StOk K H0 G0 σ e H G) (al : List Nat) :
    LockT (fun H1 => ∃ G1 GA, StOk K H0 G0 σ (fzD al e) H1 G1 ∧ EnvG K (fun i => i ∈ al) σ e H1 GA ∧ ∀ H' G', Ext H1 GA H' G' → StOk K H0 G0 σ (fz al e) H' G') H :=
  (S.lock al).imp fun H1 ⟨G1, S1⟩ => by
    obtain ⟨GA, E, nxt⟩ := S1.exp0 al (fzD_nd al e)
    refine ⟨G1, GA, S1, ⟨E.sub, by rw [E.len, fzD_length], fun i d o h => ?_⟩, fun H' G' x => by rw [← fz_fzD]; exact nxt H' G' x⟩
    obtain ⟨o1, h1, h2⟩ := fzD_keep al e i d o h
    obtain ⟨v, w1, w2, w3⟩ := E.val i d o1 h1
    exact ⟨v, w1, fun z => w2 (z.imp id h2), w3⟩

/-! a name is stored -/
section
variable {K : PySem.W.Frag} {H0 : Bas} {G0 H G : Hp} {σ : L2.St} {e : Env}
theorem StOk.lt (S : StOk K H0 G0 σ e H G) {i : Nat} {s : Sl} {x : Sl} (h : (e.set i x)[i]? = some s) : i < σ.length := by
  by_cases hl : i < e.length
  · rw [S.len]; exact hl
  · rw [List.getElem?_eq_none (by simpa using hl)] at h; cases h
theorem StOk.set (S : StOk K H0 G0 σ e H G) (i : Nat) {d : D} {v : V} (r : Rep K G d v) : StOk K H0 G0 (σ.set i (some v)) (e.set i (some (d, false))) H G := by
  refine ⟨S.ext, by rw [List.length_set, List.length_set]; exact S.len, fun j d' h => ?_, fun j d' h => ?_, fun j k d1 d2 a h1 h2 h3 h4 => ?_, fun j a d' hp h => ?_⟩
  · rcases set_get h with ⟨rfl, z⟩ | ⟨hj, z⟩
    · cases z
      exact ⟨v, List.getElem?_set_self (S.lt h), r⟩
    · obtain ⟨w, q1, q2⟩ := S.sh j d' z
      exact ⟨w, by rw [List.getElem?_set_ne (Ne.symm hj)]; exact q1, q2⟩
  · rcases set_get h with ⟨_, z⟩ | ⟨hj, z⟩
    · cases z
    · obtain ⟨a, q1, q2⟩ := S.ow j d' z
      exact ⟨a, by rw [List.getElem?_set_ne (Ne.symm hj)]; exact q1, q2⟩
  · rcases set_get h1 with ⟨_, z⟩ | ⟨hj, z1⟩
    · cases z
    · rcases set_get h2 with ⟨_, z⟩ | ⟨hk, z2⟩
      · cases z
      · rw [List.getElem?_set_ne (Ne.symm hj)] at h3
        rw [List.getElem?_set_ne (Ne.symm hk)] at h4
        exact S.ne j k d1 d2 a z1 z2 h3 h4
  · rcases set_get h with ⟨_, z⟩ | ⟨hj, z⟩
    · cases z
    · rw [List.getElem?_set_ne (Ne.symm hj)]; exact S.pn j a d' hp z
theorem StOk.setF (S : StOk K H0 G0 σ e H G) (i : Nat) {d : D} {a : Addr} {Hb : Hp} (hb : Sub H0.hp Hb) (ho : ∀ (j : Nat) d b, e[j]? = some (some (d, true)) → σ[j]? = some (some (.ref b)) → Hb b ≠ none) (ha : Hb a = none) (ga : G a = none) (rc : OwnC K H G d a) (hpin : H0.pin i = none) :
    StOk K H0 G0 (σ.set i (some (.ref a))) (e.set i (some (d, true))) H G := by
  have other : ∀ (j : Nat) d' b, e[j]? = some (some (d', true)) → σ[j]? = some (some (.ref b)) → b ≠ a := fun j d' b h1 h2 z => ho j d' b h1 h2 (by rw [z]; exact ha)
  refine ⟨S.ext, by rw [List.length_set, List.length_set]; exact S.len, fun j d' h => ?_, fun j d' h => ?_, fun j k d1 d2 b h1 h2 h3 h4 => ?_, fun j b d' hp h => ?_⟩
  · rcases set_get h with ⟨_, z⟩ | ⟨hj, z⟩
    · cases z
    · obtain ⟨w, q1, q2⟩ := S.sh j d' z
      exact ⟨w, by rw [List.getElem?_set_ne (Ne.symm hj)]; exact q1, q2⟩
  · rcases set_get h with ⟨rfl, z⟩ | ⟨hj, z⟩
    · cases z
      exact ⟨a, List.getElem?_set_self (S.lt h), hb.free ha, ga, rc⟩
    · obtain ⟨b, q1, q2⟩ := S.ow j d' z
      exact ⟨b, by rw [List.getElem?_set_ne (Ne.symm hj)]; exact q1, q2⟩
  · rcases set_get h1 with ⟨rfl, z1⟩ | ⟨hj, z1⟩
    · rw [List.getElem?_set_self (S.lt h1)] at h3
      cases h3
      rcases set_get h2 with ⟨e2, _⟩ | ⟨hk, z2⟩
      · exact e2.symm
      · rw [List.getElem?_set_ne (Ne.symm hk)] at h4
        exact absurd rfl (other k d2 a z2 h4)
    · rw [List.getElem?_set_ne (Ne.symm hj)] at h3
      rcases set_get h2 with ⟨rfl, _⟩ | ⟨hk, z2⟩
      · rw [List.getElem?_set_self (S.lt h2)] at h4
        cases h4
        exact absurd rfl (other j d1 a z1 h3)
      · rw [List.getElem?_set_ne (Ne.symm hk)] at h4
        exact S.ne j k d1 d2 b z1 z2 h3 h4
  · rcases set_get h with ⟨rfl, _⟩ | ⟨hj, z⟩
    · rw [hpin] at hp; cases hp
    · rw [List.getElem?_set_ne (Ne.symm hj)]; exact S.pn j b d' hp z
/-- the list or dict of a name is changed -/
theorem StOk.change (S : StOk K H0 G0 σ e H G) {i : Nat} {d d' : D} {a : Addr} {o : HO} (h : e[i]? = some (some (d, true))) (hs : σ[i]? = some (some (.ref a))) (rc : OwnC K (upd H a o) G d' a) :
    StOk K H0 G0 σ (e.set i (some (d', true))) (upd H a o) G := by
  obtain ⟨a', q1, q2, q3, q5⟩ := S.ow i d h
  rw [hs] at q1; cases q1
  have il : i < e.length := (List.getElem?_eq_some_iff.mp h).1
  have nG : ∀ {b u}, G b = some u → b ≠ a := fun {b u} z w => by rw [w, q3] at z; cases z
  have n0 : ∀ {b u}, H0.hp b = some u → b ≠ a := fun {b u} z w => by rw [w, q2] at z; cases z
  refine ⟨⟨fun b u z => by rw [upd_ne (n0 z)]; exact S.ext.hh _ _ z, S.ext.gg, fun b u z => by rw [upd_ne (nG z)]; exact S.ext.gh _ _ z, S.ext.new⟩, by rw [List.length_set]; exact S.len, fun j d1 h1 => ?_, fun j d1 h1 => ?_, fun j k d1 d2 b h1 h2 h3 h4 => ?_, fun j b d1 hp h1 => ?_⟩
  · rcases set_get h1 with ⟨_, z⟩ | ⟨hj, z⟩
    · cases z
    · exact S.sh j d1 z
  · rcases set_get h1 with ⟨rfl, z⟩ | ⟨hj, z⟩
    · cases z
      exact ⟨a, hs, q2, q3, rc⟩
    · obtain ⟨b, w1, w2, w3, w5⟩ := S.ow j d1 z
      have nb : b ≠ a := fun q => hj (S.ne j i d1 d b z h w1 (by rw [q]; exact hs))
      exact ⟨b, w1, w2, w3, w5.mono' (fun o' z => by rw [upd_ne nb]; exact z) (Sub.refl _)⟩
  · have k1 : ∃ d', e[j]? = some (some (d', true)) := by
      rcases set_get h1 with ⟨rfl, _⟩ | ⟨_, z⟩
      · exact ⟨d, h⟩
      · exact ⟨_, z⟩
    have k2 : ∃ d', e[k]? = some (some (d', true)) := by
      rcases set_get h2 with ⟨rfl, _⟩ | ⟨_, z⟩
      · exact ⟨d, h⟩
      · exact ⟨_, z⟩
    obtain ⟨x1, y1⟩ := k1
    obtain ⟨x2, y2⟩ := k2
    exact S.ne j k x1 x2 b y1 y2 h3 h4
  · rcases set_get h1 with ⟨rfl, _⟩ | ⟨_, z⟩
    · exact S.pn j b d hp h
    · exact S.pn j b d1 hp z
end
end DL

namespace DL
open PySem PySem.Spec PyProof.Rows L2
open PySem.Builtin.Int (intBits)

def SPost (K : PySem.W.Frag) (mg : Str → Option Value) (W : WX) (H0 : Bas) (G0 : Hp) (r : Out) (Z : Ends) : Prop := match r with
  | .nx e' => ∀ σ' H' G', StOk K H0 G0 σ' e' H' G' → Z.nx σ' H'
  | .bk e' => ∀ σ' H' G', StOk K H0 G0 σ' e' H' G' → Z.bk σ' H'
  | .ct e' => ∀ σ' H' G', StOk K H0 G0 σ' e' H' G' → Z.ct σ' H'
  | .rt d => ∀ v H' G', Ext H0.hp G0 H' G' → Rep K G' d v → Z.rt v H'
  | .ro d => ∀ a H' G', Ext H0.hp G0 H' G' → H0.hp a = none → G' a = none → OwnC K H' G' d a → Z.rt (.ref a) H'
  | .rm d e' => ∀ v σ' H' G', StOk K H0 G0 σ' e' H' G' → Rep K G' d v → Z.rt v H'
  | .ex c fs e' => ∀ cls o σ' H' G' H'', StOk K H0 G0 σ' e' H' G' → Sub H' H'' → IsExc K mg c fs cls o H'' → W cls o σ' H''
  | .bad => False
def tS (K : PySem.W.Frag) (mg : Str → Option Value) (W : WX) (H0 : Bas) (G0 : Hp) (f : Env → Out) : TS := fun Z σ H => ∃ e G, StOk K H0 G0 σ e H G ∧ SPost K mg W H0 G0 (f e) Z
abbrev DS (X : Cx) (W : WX) (H0 : Bas) (G0 : Hp) (st : Stmt) (f : Env → Out) : Prop := PS X st (tS X.K X.mg W H0 G0 f)
abbrev DSs (X : Cx) (W : WX) (H0 : Bas) (G0 : Hp) (st : List Stmt) (f : Env → Out) : Prop := PSs X st (tS X.K X.mg W H0 G0 f)

/-- a reckoning, then what follows -/
def sE {α : Type} (al : List Nat) (f : Env → Res α) (k : α → Env → Out) : Env → Out := fun e => match f e with
  | .ok a => k a (fz al e)
  | .exc c fs => .ex c fs (fz al e)
  | .bad => .bad
section
variable {X : Cx} {W : WX} {H0 : Bas} {G0 : Hp}
theorem sE_step {al : List Nat} {α : Type} {f : Env → Res α} {k : α → Env → Out} {σ : L2.St} {H : Hp} {Z : Ends} (h : tS X.K X.mg W H0 G0 (sE al f k) Z σ H) :
    LockT (fun H => ∃ e G, EnvG X.K (fun i => i ∈ al) σ e H G ∧ PostG X.K X.mg (fun c o H' => W c o σ H') H G (f e) fun a H' G' => StOk X.K H0 G0 σ (fz al e) H' G' ∧ SPost X.K X.mg W H0 G0 (k a (fz al e)) Z) H := by
  obtain ⟨e, G, S, p⟩ := h
  refine (S.exp al).imp fun H ⟨G1, GA, S1, E, nxt⟩ => ?_
  refine ⟨e, GA, E, ?_⟩
  unfold sE at p
  cases hr : f e with
  | ok a =>
    rw [hr] at p
    exact fun H' G' x => ⟨nxt H' G' x, p⟩
  | exc c fs =>
    rw [hr] at p
    exact fun cls o H' s ix => p cls o σ H GA H' (nxt H GA (Ext.refl E.sub)) s ix
  | bad =>
    rw [hr] at p
    exact p.elim

/-! ### the plain statements -/
variable {al : List Nat} {st : Stmt} {rest : List Stmt} {ex : Expr} {pos : Pos}
def sSkip : Env → Out := fun e => .nx e
def sSeq (f g : Env → Out) : Env → Out := fun e => match f e with
  | .nx e' => g e'
  | r => r
theorem dss_nil : DSs X W H0 G0 [] sSkip := pss_nil.imp fun Z σ H ⟨e, G, S, p⟩ => p σ H G S
theorem dss_one {f : Env → Out} (h : DS X W H0 G0 st f) : DSs X W H0 G0 [st] f := pss_one h
theorem dss_cons {f g : Env → Out} (h1 : DS X W H0 G0 st f) (h2 : DSs X W H0 G0 rest g) : DSs X W H0 G0 (st :: rest) (sSeq f g) :=
  (pss_cons h1 h2).imp fun Z σ H ⟨e, G, S, p⟩ => ⟨e, G, S, by
    unfold sSeq at p
    cases hr : f e with
    | nx e' => rw [hr] at p; exact fun σ' H' G' S' => ⟨e', G', S', p⟩
    | rt d => rw [hr] at p; exact p
    | ro d => rw [hr] at p; exact p
    | rm d e' => rw [hr] at p; exact p
    | bk e' => rw [hr] at p; exact p
    | ct e' => rw [hr] at p; exact p
    | ex c fs e' => rw [hr] at p; exact p
    | bad => rw [hr] at p; exact p⟩
theorem ds_pass : DS X W H0 G0 (.Pass pos) sSkip := ps_pass.imp fun Z σ H ⟨e, G, S, p⟩ => p σ H G S
def sBreak : Env → Out := fun e => .bk e
def sCont : Env → Out := fun e => .ct e
theorem ds_break : DS X W H0 G0 (.Break pos) sBreak := ps_break.imp fun Z σ H ⟨e, G, S, p⟩ => p σ H G S
theorem ds_cont : DS X W H0 G0 (.Continue pos) sCont := ps_continue.imp fun Z σ H ⟨e, G, S, p⟩ => p σ H G S
def sRet (al : List Nat) (f : Env → Res D) : Env → Out := sE al f fun d _ => .rt d
theorem ds_ret {f : Env → Res D} (h : DE X W (fun i => i ∈ al) ex f) : DS X W H0 G0 (.Return (some ex) pos) (sRet al f) :=
  (ps_ret h).lk fun Z σ H hq => (sE_step hq).imp fun H ⟨e, G, E, p⟩ => by
    exact ⟨e, G, E, p.imp fun d H' G' x ⟨S, q⟩ v r => q v H' G' S.ext r⟩
/-- return x, x a list or dict of its own -/
def sRetO (i : Nat) : Env → Out := fun e => match e[i]? with
  | some (some (d, true)) => .ro d
  | some (some (d, false)) => .rt d
  | _ => .bad
theorem ds_retO {i : Nat} {x : Str} {p1 : Pos} (hN : X.N[i]? = some x) (hv : Vis X.env.scope x) (hd : (x == ("__debug__" : Str)) = false := by decide) (hcd : (x == ("__classdict__" : Str)) = false := by decide) : DS X W H0 G0 (.Return (some (.Name x p1)) pos) (sRetO i) :=
  (ps_ret (pe_var hN hv hd hcd)).imp fun Z σ H ⟨e, G, S, p⟩ => by
    unfold sRetO at p
    revert p
    split
    · rename_i d h
      intro p
      obtain ⟨a, q1, q2, q3, q4⟩ := S.ow i d h
      exact ⟨_, q1, p a H G S.ext q2 q3 q4⟩
    · rename_i d h
      intro p
      obtain ⟨v, q1, q2⟩ := S.sh i d h
      exact ⟨v, q1, p v H G S.ext q2⟩
    · exact fun p => p.elim
/-- return of a new list or dict -/
def sRetF (al : List Nat) (f : Env → Res D) : Env → Out := sE al f fun d _ => .ro d
theorem ds_retF {f : Env → Res D} (h : DF X W (fun i => i ∈ al) ex f) : DS X W H0 G0 (.Return (some ex) pos) (sRetF al f) :=
  (ps_ret h).lk fun Z σ H ⟨e, G, S, p⟩ => (S.exp al).imp fun H ⟨G1, GA, S1, E, nxt⟩ => by
    refine ⟨e, GA, E, ?_⟩
    unfold sRetF sE at p
    cases hr : f e with
    | ok d =>
      rw [hr] at p
      exact fun H' G' x a ha ga rc => p a H' G' (nxt H' G' x).ext (S1.ext.hh.free ha) ga rc
    | exc c fs =>
      rw [hr] at p
      exact fun cls o H' s ix => p cls o σ H GA H' (nxt H GA (Ext.refl E.sub)) s ix
    | bad => rw [hr] at p; exact p.elim
def sRetN : Env → Out := fun _ => .rt .non
theorem ds_retN : DS X W H0 G0 (.Return none pos) sRetN := ps_retN.imp fun Z σ H ⟨e, G, S, p⟩ => p .non H G S.ext rfl
def sIf (al : List Nat) (ft : Env → Res Bool) (f g : Env → Out) : Env → Out := sE al ft fun b e => if b = true then f e else g e
theorem ds_if {c : Expr} {a b : List Stmt} {ft : Env → Res Bool} {f g : Env → Out} (hc : DT X W (fun i => i ∈ al) c ft) (ha : DSs X W H0 G0 a f) (hb : DSs X W H0 G0 b g) : DS X W H0 G0 (.If c a b pos) (sIf al ft f g) :=
  (ps_if hc ha hb).lk fun Z σ H hq => (sE_step hq).imp fun H ⟨e, G, E, p⟩ => by
    refine ⟨e, G, E, p.imp fun k H' G' x ⟨S, q⟩ => ?_⟩
    cases k with
    | true => rw [if_pos rfl] at q ⊢; exact ⟨_, G', S, q⟩
    | false => rw [if_neg Bool.false_ne_true] at q ⊢; exact ⟨_, G', S, q⟩
def sDrop (al : List Nat) (f : Env → Res D) : Env → Out := sE al f fun _ e => .nx e
theorem ds_drop {f : Env → Res D} (h : DE X W (fun i => i ∈ al) ex f) (hs : swapsWith ex none pos.line X.env = pure false := by rfl) : DS X W H0 G0 (.Expr ex pos) (sDrop al f) :=
  (ps_expr h hs).lk fun Z σ H hq => (sE_step hq).imp fun H ⟨e, G, E, p⟩ => by
    exact ⟨e, G, E, p.imp fun d H' G' x ⟨S, q⟩ v r => q σ H' G' S⟩
/-- x = e -/
def sSet (al : List Nat) (i : Nat) (f : Env → Res D) : Env → Out := sE al f fun d e => .nx (e.set i (some (d, false)))
theorem ds_set {i : Nat} {x : Str} {pos' : Pos} {f : Env → Res D} (hN : X.N.Nodup) (hi : X.N[i]? = some x) (hx : Loc X.env.scope x) (h : DE X W (fun i => i ∈ al) ex f) (hs : swapsWith ex (some (.Name x pos')) pos.line X.env = pure false := by rfl)
    (hf : X.fn x = true ∨ X.env.scope.names.lookup x = some .local := by first | exact .inl rfl | exact .inr rfl | assumption) : DS X W H0 G0 (.Assign [.Name x pos'] ex pos) (sSet al i f) :=
  (ps_set hN hi hx h hs hf).lk fun Z σ H hq => (sE_step hq).imp fun H ⟨e, G, E, p⟩ => by
    exact ⟨e, G, E, p.imp fun d H' G' _ ⟨S, q⟩ v r => q _ H' G' (S.set i r)⟩
/-- return out of a def that was lent lists or dicts -/
def sRetM (al : List Nat) (f : Env → Res D) : Env → Out := sE al f fun d e => .rm d e
theorem ds_retM {f : Env → Res D} (h : DE X W (fun i => i ∈ al) ex f) : DS X W H0 G0 (.Return (some ex) pos) (sRetM al f) :=
  (ps_ret h).lk fun Z σ H hq => (sE_step hq).imp fun H ⟨e, G, E, p⟩ => by
    exact ⟨e, G, E, p.imp fun d H' G' x ⟨S, q⟩ v r => q v σ H' G' S r⟩
def sRetMN : Env → Out := fun e => .rm .non e
theorem ds_retMN : DS X W H0 G0 (.Return none pos) sRetMN := ps_retN.imp fun Z σ H ⟨e, G, S, p⟩ => p .non σ H G S rfl
/-- x = a new list or dict, to be changed -/
def sSetF (al : List Nat) (i : Nat) (f : Env → Res D) : Env → Out := sE al f fun d e => .nx (e.set i (some (d, true)))
theorem ds_setF {i : Nat} {x : Str} {pos' : Pos} {f : Env → Res D} (hN : X.N.Nodup) (hi : X.N[i]? = some x) (hx : Loc X.env.scope x) (h : DF X W (fun i => i ∈ al) ex f) (hs : swapsWith ex (some (.Name x pos')) pos.line X.env = pure false := by rfl)
    (hf : X.fn x = true ∨ X.env.scope.names.lookup x = some .local := by first | exact .inl rfl | exact .inr rfl | assumption) (hpin : H0.pin i = none := by rfl) : DS X W H0 G0 (.Assign [.Name x pos'] ex pos) (sSetF al i f) :=
  (ps_set hN hi hx h hs hf).lk fun Z σ H ⟨e, G, S, p⟩ => (S.exp al).imp fun H ⟨G1, GA, S1, E, nxt⟩ => by
    refine ⟨e, GA, E, ?_⟩
    unfold sSetF sE at p
    cases hr : f e with
    | ok d =>
      rw [hr] at p
      intro H' G' x a ha ga rc
      have S' := nxt H' G' x
      refine p _ H' G' (S'.setF i (Hb := H) S1.ext.hh (fun j d' b h1 h2 => ?_) ha ga rc hpin)
      have w1 := fz_fzD_own h1
      obtain ⟨a', q1, _, _, q4⟩ := S1.ow j d' w1
      rw [h2] at q1; cases q1
      exact q4.is
    | exc c fs =>
      rw [hr] at p
      exact fun cls o H' s ix => p cls o σ H GA H' (nxt H GA (Ext.refl E.sub)) s ix
    | bad => rw [hr] at p; exact p.elim

/-! ### a, b = e -/
inductive Pat where
  | nm (i : Nat)
  | tp (ps : List Pat)
mutual
def Pat.bind : Pat → D → Env → Res Env
  | .nm i, d, e => .ok (e.set i (some (d, false)))
  | .tp ps, d, e => match d with
    | .tup ds => Pat.binds ps ds e
    | _ => .bad
def Pat.binds : List Pat → List D → Env → Res Env
  | [], [], e => .ok e
  | p :: ps, d :: ds, e => (Pat.bind p d e).bind fun e' => Pat.binds ps ds e'
  | _, _, _ => .bad
end
mutual
def Pat.slots : Pat → List Nat
  | .nm i => [i]
  | .tp ps => Pat.slotss ps
def Pat.slotss : List Pat → List Nat
  | [] => []
  | p :: ps => Pat.slots p ++ Pat.slotss ps
end
/-- what stays where a name of these is stored -/
def Setable (K : PySem.W.Frag) (sl : List Nat) (R : L2.St → Env → Hp → Hp → Prop) : Prop := ∀ σ e H G i d v, i ∈ sl → R σ e H G → Rep K G d v → R (σ.set i (some v)) (e.set i (some (d, false))) H G
/-- a target's reading: it stores by the pattern -/
def DG (X : Cx) (tg : Expr) (p : Pat) : Prop :=
  ∃ g, PG X tg g ∧ ∀ (R : L2.St → Env → Hp → Hp → Prop), Setable X.K p.slots R → ∀ (v : V) (σ : L2.St) (H G : Hp) (d : D) (e e' : Env) (Q : L2.St → Hp → Prop), R σ e H G → Sub G H → Rep X.K G d v → p.bind d e = .ok e' → (∀ σ', R σ' e' H G → Q σ' H) → g v σ H Q
def DGs (X : Cx) (tgs : List Expr) (ps : List Pat) : Prop :=
  ∃ g, PGs X tgs g ∧ ∀ (R : L2.St → Env → Hp → Hp → Prop), Setable X.K (Pat.slotss ps) R → ∀ (vs : List V) (σ : L2.St) (H G : Hp) (ds : List D) (e e' : Env) (Q : L2.St → Hp → Prop), R σ e H G → Sub G H → RepL X.K G ds vs → Pat.binds ps ds e = .ok e' → (∀ σ', R σ' e' H G → Q σ' H) → g vs σ H Q
theorem dg_name {i : Nat} {x : Str} (hN : X.N.Nodup) (hi : X.N[i]? = some x) (hx : Loc X.env.scope x) (hf : X.fn x = true ∨ X.env.scope.names.lookup x = some .local := by first | exact .inl rfl | exact .inr rfl | assumption) : DG X (.Name x pos) (.nm i) :=
  ⟨_, pg_name hN hi hx hf, fun R hR v σ H G d e e' Q S sg r h q => by
    cases h
    exact q _ (hR σ e H G i d v (by simp [Pat.slots]) S r)⟩
theorem dgs_nil : DGs X [] [] := ⟨_, pgs_nil, fun R hR vs σ H G ds e e' Q S sg r h q => by
  cases ds with
  | nil => cases h; exact ⟨r, q σ S⟩
  | cons d ds => cases h⟩
theorem dgs_cons {tg : Expr} {tgs : List Expr} {p : Pat} {ps : List Pat} (h1 : DG X tg p) (h2 : DGs X tgs ps)
    (hs : (assignEach (tg :: tgs) X.env).map (·.2) = assign tg X.env :: (assignEach tgs X.env).map (·.2) := by rfl) : DGs X (tg :: tgs) (p :: ps) := by
  obtain ⟨g1, a1, b1⟩ := h1
  obtain ⟨g2, a2, b2⟩ := h2
  refine ⟨_, pgs_cons a1 a2 hs, fun R hR vs σ H G ds e e' Q S sg r h q => ?_⟩
  cases ds with
  | nil => cases h
  | cons d ds =>
    obtain ⟨v, vr, ev, r1, r2⟩ := r
    dsimp only [Pat.binds] at h
    cases hb : p.bind d e with
    | exc c fs => rw [hb] at h; cases h
    | bad => rw [hb] at h; cases h
    | ok e1 =>
      rw [hb] at h
      refine ⟨v, vr, ev, b1 R (fun σ e H G i d v hi => hR σ e H G i d v (by simp [Pat.slotss, hi])) v σ H G d e e1 _ S sg r1 hb fun σ' S' => ?_⟩
      exact b2 R (fun σ e H G i d v hi => hR σ e H G i d v (by simp [Pat.slotss, hi])) vr σ' H G ds e1 e' Q S' sg r2 h q
theorem binds_length : ∀ (ps : List Pat) (ds : List D) (e e' : Env), Pat.binds ps ds e = .ok e' → ds.length = ps.length := by
  intro ps
  induction ps with
  | nil => intro ds e e' h; cases ds with
    | nil => rfl
    | cons _ _ => cases h
  | cons p ps ih => intro ds e e' h; cases ds with
    | nil => cases h
    | cons d ds =>
      dsimp only [Pat.binds] at h
      cases hb : p.bind d e with
      | exc c fs => rw [hb] at h; cases h
      | bad => rw [hb] at h; cases h
      | ok e1 => rw [hb] at h; rw [List.length_cons, List.length_cons, ih ds e1 e' h]
theorem dg_tup {tgs : List Expr} {k : Nat} {ps : List Pat} {n : Nat} (hc : X.calm = true) (h : DGs X tgs ps) (hl : ps.length = n)
    (hn : (assignEach tgs X.env).length = n := by rfl) (hst : (assignEach tgs X.env).findIdx? (·.1) = none := by rfl) : DG X (.Tuple tgs k pos) (.tp ps) := by
  obtain ⟨g, a, b⟩ := h
  refine ⟨_, pg_tup hc a hn hst, fun R hR v σ H G d e e' Q S sg r h q => ?_⟩
  cases d with
  | tup ds =>
    obtain ⟨p, vs, ev, s, r⟩ := r
    have h : Pat.binds ps ds e = .ok e' := h
    exact ⟨p, vs, ev, sg.pt s, by rw [r.length, binds_length ps ds e e' h, hl], b R (fun σ e H G i d v hi => hR σ e H G i d v (by simpa [Pat.slots] using hi)) vs σ H G ds e e' Q S sg r h q⟩
  | _ => cases h
theorem st_setable {K : PySem.W.Frag} {sl : List Nat} : Setable K sl (StOk K H0 G0) := fun σ e H G i d v _ S r => S.set i r
def sAsg (al : List Nat) (p : Pat) (f : Env → Res D) : Env → Out := sE al f fun d e => match p.bind d e with
  | .ok e' => .nx e'
  | _ => .bad
theorem ds_asg {tg : Expr} {p : Pat} {f : Env → Res D} (h : DE X W (fun i => i ∈ al) ex f) (hg : DG X tg p) (hs : swapsWithSole [tg] ex pos.line X.env = pure false := by rfl) (hw : swappedStores [tg] ex X.env = pure none := by rfl)
    (h1 : (assignEach [tg] X.env).map (·.2) = [assign tg X.env] := by rfl) : DS X W H0 G0 (.Assign [tg] ex pos) (sAsg al p f) := by
  obtain ⟨g, a, b⟩ := hg
  refine (ps_asg h a hs hw h1).lk fun Z σ H hq => (sE_step hq).imp fun H ⟨e, G, E, p⟩ => ?_
  refine ⟨e, G, E, p.imp fun d H' G' x ⟨S, q⟩ v r => ?_⟩
  cases hb : Pat.bind _ d (fz al e) with
  | ok e' =>
    rw [hb] at q
    exact b _ st_setable v σ H' G' d _ e' _ S S.ext.gh r hb fun σ2 S2 => q σ2 H' G' S2
  | exc c fs => rw [hb] at q; exact q.elim
  | bad => rw [hb] at q; exact q.elim

/-! ### lists changed in place -/
/-- the list that the name i holds, to be changed -/
def ownL (i : Nat) (e : Env) (k : List D → Out) : Out := match e[i]? with
  | some (some (.lst xs, true)) => k xs
  | _ => .bad
theorem StOk.ownL {σ : L2.St} {e : Env} {H G : Hp} {K : PySem.W.Frag} (S : StOk K H0 G0 σ e H G) {i : Nat} {xs : List D} (h : e[i]? = some (some (.lst xs, true))) : ∃ a vs, σ[i]? = some (some (.ref a)) ∧ H a = some (.lst vs) ∧ RepL K G xs vs := by
  obtain ⟨a, q1, q2, q3, vs, e, r⟩ := S.ow i _ h
  exact ⟨a, vs, q1, e, r⟩
end
end DL

namespace DL
open PySem PySem.Spec PyProof.Rows L2
open PySem.Builtin.Int (intBits)
section
variable {X : Cx} {W : WX} {H0 : Bas} {G0 : Hp} {al : List Nat} {ex : Expr} {es : List Expr} {pos apos cpos p1 p2 : Pos}
/-- a method that changes its list -/
def MutL (X : Cx) (id : String) (g : List D → List D → Option (List D)) : Prop :=
  ∃ r, MtR X id r ∧ ∀ (G H : Hp) (a : Addr) (xs : List D) (vs : List V) (ds : List D) (ws : List V) (xs' : List D) (Q : Hp → Prop), Sub G H → H a = some (.lst vs) → RepL X.K G xs vs → RepL X.K G ds ws → g xs ds = some xs' →
    (∀ vs', RepL X.K G xs' vs' → Q (upd H a (.lst vs'))) → r (.ref a) ws H fun _ H' => Q H'
def sMut (al : List Nat) (i : Nat) (g : List D → List D → Option (List D)) (fs : Env → Res (List D)) : Env → Out := fun e => ownL i (fz al e) fun xs => sE al fs (fun ds e' => match g xs ds with
  | some xs' => .nx (e'.set i (some (.lst xs', true)))
  | none => .bad) e
theorem ownL_inv {i : Nat} {e : Env} {k : List D → Out} {Z : Ends} {K : PySem.W.Frag} {mg : Str → Option Value} (p : SPost K mg W H0 G0 (ownL i e k) Z) : ∃ xs, e[i]? = some (some (.lst xs, true)) ∧ SPost K mg W H0 G0 (k xs) Z := by
  unfold ownL at p
  split at p
  · rename_i xs h; exact ⟨xs, h, p⟩
  · exact p.elim
theorem ds_mut {i : Nat} {x name : Str} {id : String} {g : List D → List D → Option (List D)} {fs : Env → Res (List D)} (slot : Slot "list" name id) (hty : typeOf (.builtin id) = pure (.type "method_descriptor")) (hm : MutL X id g)
    (hN : X.N[i]? = some x) (hv : Vis X.env.scope x) (h : DA X W (fun i => i ∈ al) (ex :: es) fs)
    (hd : (x == ("__debug__" : Str)) = false := by decide) (hcd : (x == ("__classdict__" : Str)) = false := by decide)
    (hbase : attributeBase (.Name x p1) name X.env (eval (.Name x p1) X.env) = eval (.Name x p1) X.env := by rfl)
    (hfew : ((backTo cpos (starEach (ex :: es) X.env)).all (fun x => !x.1) && (backToKw cpos (keywordEach [] X.env)).all (fun x => x.1.isSome)
      && decide ((ex :: es).length + ([] : List Keyword).length + (if ([] : List Keyword).isEmpty then 0 else 1) < 30)) = true := by rfl)
    (hline : (apos.endLine == cpos.line) = true := by rfl) (hs : starEach (ex :: es) X.env = (false, eval ex X.env) :: starEach es X.env := by rfl) (hplain : (backTo cpos (starEach es X.env)).any (·.1) = false := by rfl)
    (hsw : swapsWith (.Call (.Attribute (.Name x p1) name apos) (ex :: es) [] cpos) none pos.line X.env = pure false := by rfl) :
    DS X W H0 G0 (.Expr (.Call (.Attribute (.Name x p1) name apos) (ex :: es) [] cpos) pos) (sMut al i g fs) := by
  obtain ⟨r, m1, m2⟩ := hm
  refine (ps_expr (pe_bm PySem.F.plainAttrs_list slot hty m1 (pe_var hN hv hd hcd) h hbase hfew hline hs hplain) hsw).lk fun Z σ H ⟨e, G, S, p⟩ => (S.exp al).imp fun H ⟨G1, GA, S0, E, nxt⟩ => ?_
  have S1 := nxt H GA (Ext.refl E.sub)
  obtain ⟨xs, hx, p⟩ := ownL_inv p
  obtain ⟨a, vs, q1, q2, q3⟩ := S1.ownL hx
  refine ⟨.ref a, q1, .inl ⟨rfl, vs, SqL.of q2⟩, e, GA, E, ?_⟩
  unfold sE at p
  cases hr : fs e with
  | exc c fs' =>
    rw [hr] at p
    exact fun cls o H' s ix => p cls o σ H GA H' S1 s ix
  | bad => rw [hr] at p; exact p.elim
  | ok ds =>
    rw [hr] at p
    intro H' G' x ws rw
    have S2 := nxt H' G' x
    cases hg : g xs ds with
    | none => simp only [hg] at p; exact p.elim
    | some xs' =>
      simp only [hg] at p
      exact m2 G' H' a xs vs ds ws xs' (fun H3 => Z.nx σ H3) x.gh (x.hh _ _ q2) (q3.mono x.gg) rw hg fun vs' r' => p σ _ G' (S2.change hx q1 ⟨vs', upd_same, r'⟩)
def gAppend : List D → List D → Option (List D) := fun xs ds => match ds with
  | [d] => if xs.length < sizeLine then some (xs ++ [d]) else none
  | _ => none
theorem mut_append : MutL X "list.append" gAppend := by
  refine ⟨_, mt_append, fun G H a xs vs ds ws xs' Q sg ha r1 r2 hg q => ?_⟩
  match ds, hg with
  | [d], hg =>
    obtain ⟨w, _, rfl, rw, e⟩ := r2
    have e : _ = [] := e
    subst e
    dsimp only [gAppend] at hg
    by_cases hc : xs.length < sizeLine
    · rw [if_pos hc] at hg
      cases hg
      exact ⟨a, vs, w, rfl, rfl, ha, by rw [r1.length]; exact hc, q _ (r1.append (.cons rw .nil))⟩
    · rw [if_neg hc] at hg; cases hg
/-- xs.extend(ys), ys a list or a tuple -/
theorem extendL (l : Addr) (items : Array Value) (n : Nat) (b : Addr) (items2 : Array Value) (n2 : Nat) (dd : Option Addr) (sl : Array (Option Value)) (hc0 : ¬(!items.isEmpty && Builtin.List.listTooLong (items.size + items2.size)) = true) (hc1 : items.size ≤ sizeLine) (hs2 : items.size + items2.size ≤ sizeLine + 1) :
    Meets (Builtin.«list.extend» ⟨[.ref l, .ref b], []⟩) (fun _ R s => s.heap.get? l = some { cls := .type "list", dict := none, data := .seq items n, slots := #[] } ∧ s.heap.get? b = some { cls := .type "list", dict := dd, data := .seq items2 n2, slots := sl } ∧ R (.ok (.ret Value.none)) { s with heap := s.heap.update l (Obj.mapSeq fun x => x ++ items2), toks := s.toks }) :=
  .of_wp fun prog w A R s h => by
    obtain ⟨hp, g, d, tk, os⟩ := s; obtain ⟨hl, hb, h⟩ := h; have f1 := AutoSeq1.idx_int; have f2 := AutoSeq1.sub_tuple_tuple; have f3 := AutoSeq1.sub_list_list; have f4 := AutoSeq1.sub_tuple_list; have f5 := AutoSeq1.sub_list_tuple;
    have hz' : (items ++ items2).size ≤ sizeLine + 1 := by rw [Array.size_append]; exact hs2
    wp_walk using (wpAny_updateSeq hl rfl (hz := hc1) (_hz' := hz')), wpAny_loadPart' hl, wpAny_loadPart' hb; exact ⟨_, rfl, h⟩
theorem extendT (l : Addr) (items : Array Value) (n : Nat) (b : Addr) (items2 : Array Value) (n2 : Nat) (dd : Option Addr) (sl : Array (Option Value)) (hs0 : ¬(!items.isEmpty && Builtin.List.listTooLong (items.size + items2.size)) = true) (hs1 : items.size ≤ sizeLine) (hs2 : items.size + items2.size ≤ sizeLine + 1) :
    Meets (Builtin.«list.extend» ⟨[.ref l, .ref b], []⟩) (fun _ R s => s.heap.get? l = some { cls := .type "list", dict := none, data := .seq items n, slots := #[] } ∧ s.heap.get? b = some { cls := .type "tuple", dict := dd, data := .seq items2 n2, slots := sl } ∧ R (.ok (.ret Value.none)) { s with heap := s.heap.update l (Obj.mapSeq fun x => x ++ items2), toks := s.toks }) :=
  .of_wp fun prog w A R s h => by
    obtain ⟨hp, g, d, tk, os⟩ := s; obtain ⟨hl, hb, h⟩ := h; have f1 := AutoSeq1.idx_int; have f2 := AutoSeq1.sub_tuple_tuple; have f3 := AutoSeq1.sub_list_list; have f4 := AutoSeq1.sub_tuple_list; have f5 := AutoSeq1.sub_list_tuple;
    have hz' : (items ++ items2).size ≤ sizeLine + 1 := by rw [Array.size_append]; exact hs2
    wp_walk using (wpAny_updateSeq hl rfl (hz := hs1) (_hz' := hz')), wpAny_loadPart' hl, wpAny_loadPart' hb; exact ⟨_, rfl, h⟩
def rExtendR (K : PySem.W.Frag) : V → List V → Hp → VK → Prop := fun x vs H Q => ∃ l b xs zs, x = .ref l ∧ vs = [.ref b] ∧ H l = some (.lst xs) ∧ (SqL K H b zs ∨ SqT K H b zs) ∧ xs.length + zs.length ≤ sizeLine ∧ Q .non (upd H l (.lst (xs ++ zs)))
theorem mt_extendR : MtM X "list.extend" (rExtendR X.K) := by
  intro pins s σ H x vs v us Q I rx rv h
  obtain ⟨l, b, xs, zs, rfl, rfl, hH, hB, hz, q⟩ := h
  cases rx
  obtain ⟨u, rfl, ru⟩ := rv.one
  cases ru
  obtain ⟨z, its, n, r, hl, e⟩ := I.lstM hH
  have go : ∀ (its2 : List Value), Vals zs its2 → EP X pins σ Q .none { s with heap := s.heap.update l (Obj.mapSeq fun x => x ++ its2.toArray), toks := s.toks } := fun its2 r2 =>
    ⟨.non, _, I.lset (its' := its ++ its2) hH e (by simp) (r.append r2) (by rw [List.length_append]; omega), rfl, q⟩
  have hlong : ∀ (its2 : List Value), Vals zs its2 → ¬ (!its.toArray.isEmpty && Builtin.List.listTooLong (its.toArray.size + its2.toArray.size)) = true := fun its2 r2 => by
    have := r2.length
    have hsz : its.toArray.size + its2.toArray.size ≤ sizeLine := by rw [List.size_toArray, List.size_toArray]; omega
    rw [notLongL hsz, Bool.and_false]
    exact Bool.false_ne_true
  rcases hB with hB | hB
  · obtain ⟨its2, r2, ⟨⟨cls2, dd2, data2, sl2⟩, n2, ho2, hc2, hdd2, hd2⟩, _⟩ := I.list hB
    simp only at hc2 hd2
    subst hc2 hd2
    have := r2.length
    exact call_meets F.slot_list_extend ⟨_, e, rfl⟩ F.entry_list_extend (F.args_list_extend_2 _ _)
      (extendL l its.toArray n b its2.toArray n2 dd2 sl2 (hlong its2 r2) (by rw [List.size_toArray]; omega) (by simp only [List.size_toArray]; omega)) ⟨e, ho2, go its2 r2⟩
  · obtain ⟨its2, r2, ⟨⟨cls2, dd2, data2, sl2⟩, ho2, hc2, n2, hd2⟩, _⟩ := I.tuple hB
    simp only at hc2 hd2
    subst hc2 hd2
    have := r2.length
    exact call_meets F.slot_list_extend ⟨_, e, rfl⟩ F.entry_list_extend (F.args_list_extend_2 _ _)
      (extendT l its.toArray n b its2.toArray n2 dd2 sl2 (hlong its2 r2) (by rw [List.size_toArray]; omega) (by simp only [List.size_toArray]; omega)) ⟨e, ho2, go its2 r2⟩
def gExtend : List D → List D → Option (List D) := fun xs ds => match ds with
  | [.lst ys] => if xs.length + ys.length ≤ sizeLine then some (xs ++ ys) else none
  | [.tup ys] => if xs.length + ys.length ≤ sizeLine then some (xs ++ ys) else none
  | _ => none
theorem mut_extend : MutL X "list.extend" gExtend := by
  refine ⟨_, mt_extendR, fun G H a xs vs ds ws xs' Q sg ha r1 r2 hg q => ?_⟩
  match ds, hg with
  | [.lst ys], hg =>
    obtain ⟨w, _, rfl, ⟨b, zs, rfl, s, rz⟩, e⟩ := r2
    have e : _ = [] := e
    subst e
    dsimp only [gExtend] at hg
    by_cases hc : xs.length + ys.length ≤ sizeLine
    · rw [if_pos hc] at hg
      cases hg
      exact ⟨a, b, vs, zs, rfl, rfl, ha, .inl (sg.sql s), by rw [r1.length, rz.length]; exact hc, q _ (r1.append rz)⟩
    · rw [if_neg hc] at hg; cases hg
  | [.tup ys], hg =>
    obtain ⟨w, _, rfl, ⟨b, zs, rfl, s, rz⟩, e⟩ := r2
    have e : _ = [] := e
    subst e
    dsimp only [gExtend] at hg
    by_cases hc : xs.length + ys.length ≤ sizeLine
    · rw [if_pos hc] at hg
      cases hg
      exact ⟨a, b, vs, zs, rfl, rfl, ha, .inr (sg.pt s), by rw [r1.length, rz.length]; exact hc, q _ (r1.append rz)⟩
    · rw [if_neg hc] at hg; cases hg
/-- xs[i] = v -/
def sPutL (al : List Nat) (i : Nat) (fk fv : Env → Res D) : Env → Out := fun e => ownL i (fz al e) fun xs => sE al (fun e => (fv e).bind fun v => (fk e).bind fun k => .ok (k, v)) (fun kv e' => match kv.1 with
  | .int k => match ixN xs.length k with
    | some j => .nx (e'.set i (some (.lst (xs.set j kv.2), true)))
    | none => .bad
  | _ => .bad) e
theorem ds_putL {i : Nat} {x : Str} {ik ev : Expr} {fk fv : Env → Res D} (hN : X.N[i]? = some x) (hv : Vis X.env.scope x) (hk : DE X W (fun i => i ∈ al) ik fk) (he : DE X W (fun i => i ∈ al) ev fv)
    (hd : (x == ("__debug__" : Str)) = false := by decide) (hcd : (x == ("__classdict__" : Str)) = false := by decide)
    (ha : ∀ v, assign (.Subscript (.Name x p1) ik p2) X.env v = (do
      let ov ← holding [v] (eval (.Name x p1) X.env)
      let iv ← holding [v, ov] (eval ik X.env)
      standAt p2
      holding [v, ov, iv] (setItem ov iv v)
      release [v, ov, iv] []) := by intro _; rfl)
    (hs : swapsWithSole [.Subscript (.Name x p1) ik p2] ev pos.line X.env = pure false := by rfl) (hw : swappedStores [.Subscript (.Name x p1) ik p2] ev X.env = pure none := by rfl)
    (h1 : (assignEach [.Subscript (.Name x p1) ik p2] X.env).map (·.2) = [assign (.Subscript (.Name x p1) ik p2) X.env] := by rfl) :
    DS X W H0 G0 (.Assign [.Subscript (.Name x p1) ik p2] ev pos) (sPutL al i fk fv) := by
  refine (ps_asg he (pg_sub (pe_var hN hv hd hcd) hk set_list ha) hs hw h1).lk fun Z σ H ⟨e, G, S, p⟩ => (S.exp al).imp fun H ⟨G1, GA, S0, E, nxt⟩ => ?_
  have S1 := nxt H GA (Ext.refl E.sub)
  obtain ⟨xs, hx, p⟩ := ownL_inv p
  obtain ⟨a, vs, q1, q2, q3⟩ := S1.ownL hx
  unfold sE at p
  dsimp only at p
  refine ⟨e, GA, E, ?_⟩
  cases hr : fv e with
  | exc c fs' =>
    rw [hr] at p
    exact fun cls o H' s ix => p cls o σ H GA H' S1 s ix
  | bad => rw [hr] at p; exact p.elim
  | ok dv =>
    rw [hr] at p
    intro H1 G1 x1 v rv
    refine ⟨.ref a, q1, e, G1, E.ext x1, ?_⟩
    cases hr2 : fk e with
    | exc c fs' =>
      simp only [Res.bind_ok, hr2] at p
      exact fun cls o H' s ix => p cls o σ H1 G1 H' (nxt H1 G1 x1) s ix
    | bad => simp only [Res.bind_ok, hr2] at p; exact p.elim
    | ok dk =>
      simp only [Res.bind_ok, hr2] at p
      intro H2 G2 x2 k rk
      have S2 := nxt H2 G2 (x1.trans x2)
      cases dk with
      | int n =>
        simp only [] at p
        cases hj : ixN xs.length n with
        | none => simp only [hj] at p; exact p.elim
        | some j =>
          simp only [hj] at p
          have xx := x1.trans x2
          refine ⟨a, vs, n, j, rfl, rk, xx.hh _ _ q2, by rw [q3.length]; exact hj, ?_⟩
          exact p σ _ G2 (S2.change hx q1 ⟨_, upd_same, (q3.mono xx.gg).set (rv.mono x2.gg) j⟩)
      | _ => exact (show False from p).elim

/-! ### what a loop walks -/
/-- J yields ds; what is walked is read in B, its items in G -/
structure WalkOf (K : PySem.W.Frag) (J : It) (ds : List D) (B G : Hp) : Prop where
  go : ∀ H i, Sub B H → i < ds.length → J.go i H
  stop : ∀ H, Sub B H → J.stop ds.length H
  yld : ∀ H G2 i x H', Sub B H → Sub G G2 → Sub G2 H → i < ds.length → J.yld i H x H' → ∃ d G', ds[i]? = some d ∧ Ext H G2 H' G' ∧ Rep K G' d x
def tI (K : PySem.W.Frag) (mg : Str → Option Value) (W : WX) (A : Nat → Prop) (f : Env → Res (List D)) : TI := fun σ H R => ∃ e G, EnvG K A σ e H G ∧ PostG K mg (fun c o H' => W c o σ H') H G (f e) fun ds H' G' => ∀ J, WalkOf K J ds G' G' → R J H'
def tIR (K : PySem.W.Frag) (mg : Str → Option Value) (W : WX) (A : Nat → Prop) (f : Env → Res (List D)) : TI := fun σ H R => ∃ e G, EnvG K A σ e H G ∧ PostG K mg (fun c o H' => W c o σ H') H G (f e) fun ds H' G' => ∀ J, WalkOf K J ds H' G' → R J H'
abbrev DI (X : Cx) (W : WX) (A : Nat → Prop) (tg ex : Expr) (f : Env → Res (List D)) : Prop := PI X tg ex (tI X.K X.mg W A f)
abbrev DIR (X : Cx) (W : WX) (A : Nat → Prop) (tg ex : Expr) (f : Env → Res (List D)) : Prop := PI X tg ex (tIR X.K X.mg W A f)
theorem walk_list {K : PySem.W.Frag} {B G : Hp} {a : Addr} {ds : List D} {vs : List V} (s : SqL K B a vs) (r : RepL K G ds vs) : WalkOf K (Itl K a) ds B G where
  go := fun H i h hi => by
    have hl : i < vs.length := by rw [r.length]; exact hi
    exact ⟨vs, vs[i], h.sql s, by simp [hl]⟩
  stop := fun H h => ⟨vs, h.sql s, by rw [r.length]; exact Nat.le_refl _⟩
  yld := fun H G2 i x H' h g g2 hi y => by
    obtain ⟨e, y⟩ := y
    subst e
    obtain ⟨d, h1, h2⟩ := r.get' (y vs (h.sql s))
    exact ⟨d, G2, h1, Ext.refl g2, h2.mono g⟩
theorem walk_tup {K : PySem.W.Frag} {B G : Hp} {a : Addr} {ds : List D} {vs : List V} (s : SqT K B a vs) (r : RepL K G ds vs) : WalkOf K (Itt K a) ds B G where
  go := fun H i h hi => by
    have hl : i < vs.length := by rw [r.length]; exact hi
    exact ⟨vs, vs[i], h.sqt s, by simp [hl]⟩
  stop := fun H h => ⟨vs, h.sqt s, by rw [r.length]; exact Nat.le_refl _⟩
  yld := fun H G2 i x H' h g g2 hi y => by
    obtain ⟨e, y⟩ := y
    subst e
    obtain ⟨d, h1, h2⟩ := r.get' (y vs (h.sqt s))
    exact ⟨d, G2, h1, Ext.refl g2, h2.mono g⟩
theorem walk_range {K : PySem.W.Frag} {B G : Hp} (lo : Int) (n : Nat) : WalkOf K (Itr lo n) ((List.range n).map fun i => D.int (lo + (i : Nat))) B G where
  go := fun H i h hi => by
    show i < n
    simpa using hi
  stop := fun H h => by
    show n ≤ _
    simp
  yld := fun H G2 i x H' h g g2 hi y => by
    obtain ⟨e, y⟩ := y
    subst e
    have hi' : i < n := by simpa using hi
    exact ⟨.int (lo + i), G2, by simp [hi'], Ext.refl g2, y⟩
/-- over a list or tuple -/
def iSeq (f : Env → Res D) : Env → Res (List D) := fun e => (f e).bind fun d => match d with
  | .lst xs => .ok xs
  | .tup xs => .ok xs
  | .con xs => .ok xs
  | _ => .bad
/-- what is walked: a list or a tuple -/
def iSq (K : PySem.W.Frag) (te : TE) : TI := fun σ H R => te σ H fun x H1 => ∃ a, x = .ref a ∧ (((∃ xs, SqL K H1 a xs) ∧ R (Itl K a) H1) ∨ ((∃ xs, SqT K H1 a xs) ∧ R (Itt K a) H1))
theorem pi_sq {tg l : Expr} {tl : TE} (hl : PE X l tl) : PI X tg l (iSq X.K tl) := by
  refine ⟨fun pins s σ H R I h => ?_⟩
  refine thn (hl.run pins s σ H _ I h) fun v s1 ⟨x, H1, I1, r1, q1⟩ => ?_
  obtain ⟨a, e, q⟩ := q1
  subst e
  cases r1
  rcases q with ⟨⟨xs, hq⟩, q⟩ | ⟨⟨xs, hq⟩, q⟩
  · obtain ⟨its, rv, p, hz⟩ := I1.list hq
    refine wpAny_pyIter_list p.isList ?_
    refine ⟨s1.heap.objs.size, [s1.heap.objs.size], _, _, H1, rfl, I1.kept (t' := s1.toks) fun b o e => Heap.get?_push_of_some _ e, turn_list a _, ⟨_, Heap.get?_push_size _ rfl, rfl, rfl⟩, fun b hb => ?_, q⟩
    have e : b = s1.heap.objs.size := by simpa using hb
    subst e
    exact I1.fpOk (Nat.le_refl _) (I1.hok.fresh (Nat.le_refl _))
  · obtain ⟨its, rv, p, hz⟩ := I1.tuple hq
    refine wpAny_pyIter_tuple (show s1.heap.IsTuple a its.toArray from p) ?_
    refine ⟨s1.heap.objs.size, [s1.heap.objs.size], _, _, H1, rfl, I1.kept (t' := s1.toks) fun b o e => Heap.get?_push_of_some _ e, turn_tuple a _, ⟨_, Heap.get?_push_size _ rfl, rfl, rfl⟩, fun b hb => ?_, q⟩
    have e : b = s1.heap.objs.size := by simpa using hb
    subst e
    exact I1.fpOk (Nat.le_refl _) (I1.hok.fresh (Nat.le_refl _))
variable {A : Nat → Prop}
theorem di_seq {tg : Expr} {f : Env → Res D} (h : DE X W A ex f) : DI X W A tg ex (iSeq f) :=
  (pi_sq h).imp fun σ H Q ⟨e, G, E, p⟩ => ⟨e, G, E, p.split.imp fun d H1 G1 x1 p1 v rv => by
    cases d with
    | lst xs =>
      obtain ⟨a, vs, rfl, s, r⟩ := rv
      exact ⟨a, rfl, .inl ⟨⟨vs, x1.gh.sql s⟩, PostG.here (a := xs) p1 x1.gh _ (walk_list s r)⟩⟩
    | tup xs =>
      obtain ⟨a, vs, rfl, s, r⟩ := rv
      exact ⟨a, rfl, .inr ⟨⟨vs, x1.gh.pt s⟩, PostG.here (a := xs) p1 x1.gh _ (walk_tup (SqT.of s) r)⟩⟩
    | con xs =>
      obtain ⟨a, vs, rfl, s, r⟩ := rv
      exact ⟨a, rfl, .inr ⟨⟨vs, x1.gh.sqt s⟩, PostG.here (a := xs) p1 x1.gh _ (walk_tup s r)⟩⟩
    | _ => exact (show False from p1).elim⟩
/-- .. that is read alone (in a comprehension) -/
theorem dir_seq {tg : Expr} {f : Env → Res D} (h : DR X W A ex f) : DIR X W A tg ex (iSeq f) :=
  (pi_sq h).imp fun σ H Q ⟨e, G, E, p⟩ => ⟨e, G, E, p.split.imp fun d H1 G1 x1 p1 v rv => by
    cases d with
    | lst xs =>
      obtain ⟨a, vs, rfl, s, r⟩ := rv
      exact ⟨a, rfl, .inl ⟨⟨vs, s⟩, PostG.here (a := xs) p1 x1.gh _ (walk_list s r)⟩⟩
    | tup xs =>
      obtain ⟨a, vs, rfl, s, r⟩ := (show Rep X.K G1 (.tup xs) v from rv)
      exact ⟨a, rfl, .inr ⟨⟨vs, x1.gh.pt s⟩, PostG.here (a := xs) p1 x1.gh _ (walk_tup (x1.gh.pt s) r)⟩⟩
    | con xs =>
      obtain ⟨a, vs, rfl, s, r⟩ := (show Rep X.K G1 (.con xs) v from rv)
      exact ⟨a, rfl, .inr ⟨⟨vs, x1.gh.sqt s⟩, PostG.here (a := xs) p1 x1.gh _ (walk_tup (x1.gh.sqt s) r)⟩⟩
    | _ => exact (show False from p1).elim⟩
theorem WalkOf.low {K : PySem.W.Frag} {J : It} {ds : List D} {B B' G : Hp} (h : WalkOf K J ds B G) (s : Sub B B') : WalkOf K J ds B' G :=
  ⟨fun H i z => h.go H i (s.trans z), fun H z => h.stop H (s.trans z), fun H G2 i x H' z => h.yld H G2 i x H' (s.trans z)⟩
theorem dir_of {tg : Expr} {f : Env → Res (List D)} (h : DI X W A tg ex f) : DIR X W A tg ex f :=
  h.imp fun σ H Q ⟨e, G, E, p⟩ => ⟨e, G, E, p.imp fun ds H1 G1 x1 q J w => q J (w.low x1.gh)⟩
/-! ranges -/
def rangeD (lo hi : Int) : List D := (List.range (hi - lo).toNat).map fun i => D.int (lo + (i : Nat))
def iRange1 (f : Env → Res D) : Env → Res (List D) := fun e => (f e).bind fun d => match d with
  | .int n => if -(2 ^ 62) ≤ n ∧ n < 2 ^ 62 then .ok (rangeD 0 n) else .bad
  | _ => .bad
def iRange2 (f g : Env → Res D) : Env → Res (List D) := fun e => (f e).bind fun d => (g e).bind fun d2 => match d, d2 with
  | .int m, .int n => if -(2 ^ 62) ≤ m ∧ m < 2 ^ 62 ∧ -(2 ^ 62) ≤ n ∧ n < 2 ^ 62 then .ok (rangeD m n) else .bad
  | _, _ => .bad
theorem di_range1 {tg a : Expr} {p : Pos} {f : Env → Res D} (hg : Gl X "range") (hm : X.mg "range" = none) (ha : DE X W A a f) (hs : starEach [a] X.env = [(false, eval a X.env)] := by rfl) : DI X W A tg (.Call (.Name "range" p) [a] [] pos) (iRange1 f) :=
  (pi_range1 hg hm (pa_cons ha pa_nil hs) hs).imp fun σ H Q ⟨e, G, E, p⟩ => ⟨e, G, E, p.split.imp fun d H1 G1 x1 p1 v rv => by
    cases d with
    | int n =>
      have ev : v = .int n := rv
      subst ev
      dsimp only at p1
      by_cases hc : -(2 ^ 62) ≤ n ∧ n < 2 ^ 62
      · rw [if_pos hc] at p1
        refine ⟨n, rfl, hc.1, hc.2, p1.here x1.gh _ ?_⟩
        have : rangeD 0 n = (List.range n.toNat).map fun i => D.int (0 + (i : Nat)) := by unfold rangeD; rw [Int.sub_zero]
        rw [this]
        exact walk_range 0 n.toNat
      · rw [if_neg hc] at p1; exact p1.elim
    | _ => exact (show False from p1).elim⟩
theorem di_range2 {tg a b : Expr} {p : Pos} {f g : Env → Res D} (hg : Gl X "range") (hm : X.mg "range" = none) (ha : DE X W A a f) (hb : DE X W A b g) (hs : starEach [a, b] X.env = [(false, eval a X.env), (false, eval b X.env)] := by rfl) (hs2 : starEach [b] X.env = [(false, eval b X.env)] := by rfl) (he : starEach (a :: [b]) X.env = (false, eval a X.env) :: starEach [b] X.env := by rfl) (he2 : starEach (b :: []) X.env = (false, eval b X.env) :: starEach [] X.env := by rfl) :
    DI X W A tg (.Call (.Name "range" p) [a, b] [] pos) (iRange2 f g) :=
  (pi_range2 hg hm (pa_cons ha (pa_cons hb pa_nil he2) he) hs hs2).imp fun σ H Q ⟨e, G, E, p⟩ => ⟨e, G, E, p.split.imp fun d H1 G1 x1 p1 v rv => ⟨e, G1, E.ext x1, p1.split.imp fun d2 H2 G2 x2 p2 u ru => by
    cases d with
    | int m =>
      cases d2 with
      | int n =>
        have ev : v = .int m := rv
        have eu : u = .int n := ru
        subst ev eu
        dsimp only at p2
        by_cases hc : -(2 ^ 62) ≤ m ∧ m < 2 ^ 62 ∧ -(2 ^ 62) ≤ n ∧ n < 2 ^ 62
        · rw [if_pos hc] at p2
          exact ⟨m, n, rfl, hc, p2.here x2.gh _ (walk_range m (n - m).toNat)⟩
        · rw [if_neg hc] at p2; exact p2.elim
      | _ => exact (show False from p2).elim
    | _ => exact (show False from p2).elim⟩⟩

/-! ### for -/
theorem StOk.step {K : PySem.W.Frag} {σ : L2.St} {e : Env} {H G H' G' : Hp} (S2 : StOk K H0 G0 σ e H G) (x3 : Ext H G H' G') : StOk K H0 G0 σ e H' G' := by
  refine ⟨S2.ext.trans x3, S2.len, fun j d' h => ?_, fun j d' h => ?_, S2.ne, S2.pn⟩
  · obtain ⟨v, w1, w2⟩ := S2.sh j d' h
    exact ⟨v, w1, w2.mono x3.gg⟩
  · obtain ⟨a, w1, w2, w3, w4⟩ := S2.ow j d' h
    refine ⟨a, w1, w2, ?_, w4.mono x3.hh x3.gg⟩
    cases hga : G' a with
    | none => rfl
    | some u =>
      rcases x3.new a (by rw [hga]; simp) with z | z
      · exact absurd w3 z
      · exact absurd z w4.nfr
theorem Ext.down {H G1 H1 G G' H' : Hp} (x : Ext H G H' G') (y : Ext H G1 H1 G) : Ext H G1 H' G' :=
  ⟨x.hh, y.gg.trans x.gg, x.gh, fun b z => by
    rcases x.new b z with z | z
    · exact y.new b z
    · exact .inr z⟩
theorem StOk.down {K : PySem.W.Frag} {σ : L2.St} {e : Env} {H G H1 G1 : Hp} (S : StOk K H0 G1 σ e H G) (y : Ext H0.hp G0 H1 G1) : StOk K H0 G0 σ e H G := ⟨S.ext.down y, S.len, S.sh, S.ow, S.ne, S.pn⟩
theorem StOk.up {K : PySem.W.Frag} {σ : L2.St} {e : Env} {H G G1 : Hp} (S : StOk K H0 G0 σ e H G) (s : Sub G1 G) (h : ∀ b, G b ≠ none → G1 b ≠ none ∨ Fr1 H0.hp b := by exact fun b z => .inl z) : StOk K H0 G1 σ e H G := ⟨⟨S.ext.hh, s, S.ext.gh, h⟩, S.len, S.sh, S.ow, S.ne, S.pn⟩
/-- the turns -/
def turns (p : Pat) (body : Env → Out) : List D → Env → Out
  | [], e => .nx e
  | d :: ds, e => match p.bind d e with
    | .ok e1 => match body e1 with
      | .nx e2 => turns p body ds e2
      | .ct e2 => turns p body ds e2
      | .bk e2 => .nx e2
      | .rt d => .rt d
      | .ro d => .ro d
      | .rm d e2 => .rm d e2
      | .ex c fs e2 => .ex c fs e2
      | .bad => .bad
    | _ => .bad
def sFor (al : List Nat) (p : Pat) (fi : Env → Res (List D)) (body : Env → Out) : Env → Out := sE al fi fun ds e => turns p body ds e
theorem ds_for {tg iter : Expr} {body : List Stmt} {p : Pat} {fi : Env → Res (List D)} {fb : Env → Out} (hp : PassesOwn (model X.prog X.w) X.A X.env X.xe) (hc : X.calm = true) (hi : DI X W (fun i => i ∈ al) tg iter fi) (hg : DG X tg p) (hb : ∀ G1, DSs X W H0 G1 body fb)
    (hs : ∀ x, foldedSetIterable iter X.env x = pure x := by intro _; rfl) : DS X W H0 G0 (.For tg iter body [] pos) (sFor al p fi fb) := by
  obtain ⟨g, g1, g2⟩ := hg
  -- the body's reading, whatever stays through it
  have hb' : PSs X body fun Z σ H => ∃ G1, tS X.K X.mg W H0 G1 fb Z σ H := ⟨fun pins s σ H D I ⟨G1, q⟩ => (hb G1).run pins s σ H D I q⟩
  refine (ps_for hp hc hi g1 hb' hs).lk fun Z σ H hq => (sE_step hq).imp fun H ⟨e, G, E, p1⟩ => ?_
  refine ⟨e, G, E, p1.imp fun ds H1 G1 x1 ⟨S1, q1⟩ J w => ?_⟩
  -- what holds between the turns
  refine ⟨fun i m σ2 H2 => m = ds.length - i ∧ i ≤ ds.length ∧ ∃ e2 G2, StOk X.K H0 G0 σ2 e2 H2 G2 ∧ Sub G1 G2 ∧ SPost X.K X.mg W H0 G0 (turns p fb (ds.drop i) e2) Z,
    ⟨ds.length, rfl, Nat.zero_le _, fz al e, G1, S1, Sub.refl _, q1⟩, ?_⟩
  rintro i m σ2 H2 ⟨rfl, hi, e2, G2, S2, g12, q2⟩
  by_cases hlt : i < ds.length
  · refine .inr ⟨w.go H2 i (g12.trans S2.ext.gh) hlt, fun σ3 H3 => ∃ e3 G3, StOk X.K H0 G0 σ3 e3 H3 G3 ∧ Sub G1 G3 ∧ SPost X.K X.mg W H0 G0 (turns p fb (ds.drop (i + 1)) e3) Z, ?_, ?_⟩
    · rintro σ3 H3 ⟨e3, G3, S3, g13, q3⟩
      exact ⟨ds.length - (i + 1), by omega, rfl, hlt, e3, G3, S3, g13, q3⟩
    · intro x H3 y
      obtain ⟨d, G3, hd, x3, rd⟩ := w.yld H2 G2 i x H3 (g12.trans S2.ext.gh) g12 S2.ext.gh hlt y
      have S3 : StOk X.K H0 G0 σ2 e2 H3 G3 := S2.step x3
      have e0 : ds.drop i = d :: ds.drop (i + 1) := by
        rw [List.drop_eq_getElem_cons hlt]
        have : ds[i] = d := by
          have := List.getElem?_eq_getElem hlt
          rw [hd] at this
          exact (Option.some.inj this).symm
        rw [this]
      rw [e0] at q2
      dsimp only [turns] at q2
      cases hb : p.bind d e2 with
      | exc c fs => rw [hb] at q2; exact q2.elim
      | bad => rw [hb] at q2; exact q2.elim
      | ok e3 =>
        rw [hb] at q2
        dsimp only at q2
        refine g2 _ st_setable x σ2 H3 G3 d e2 e3 _ S3 S3.ext.gh rd hb fun σ4 S4 => ⟨G3, e3, G3, S4.up (Sub.refl _), ?_⟩
        have g14 : Sub G1 G3 := g12.trans x3.gg
        cases hr : fb e3 with
        | nx e4 =>
          rw [hr] at q2
          exact fun σ5 H5 G5 S5 => ⟨e4, G5, S5.down S4.ext, g14.trans S5.ext.gg, q2⟩
        | ct e4 =>
          rw [hr] at q2
          exact fun σ5 H5 G5 S5 => ⟨e4, G5, S5.down S4.ext, g14.trans S5.ext.gg, q2⟩
        | bk e4 => rw [hr] at q2; exact fun σ5 H5 G5 S5 => q2 σ5 H5 G5 (S5.down S4.ext)
        | rt d => rw [hr] at q2; exact fun v H5 G5 x5 => q2 v H5 G5 (x5.down S4.ext)
        | ro d => rw [hr] at q2; exact fun a H5 G5 x5 => q2 a H5 G5 (x5.down S4.ext)
        | rm d e4 => rw [hr] at q2; exact fun v σ5 H5 G5 S5 => q2 v σ5 H5 G5 (S5.down S4.ext)
        | ex c fs e4 => rw [hr] at q2; exact fun cls o σ5 H5 G5 H6 S5 => q2 cls o σ5 H5 G5 H6 (S5.down S4.ext)
        | bad => rw [hr] at q2; exact q2.elim
  · have ei : i = ds.length := by omega
    subst ei
    refine .inl ⟨w.stop H2 (g12.trans S2.ext.gh), ?_⟩
    rw [List.drop_length] at q2
    exact q2 σ2 H2 G2 S2
end
end DL

namespace DL
open PySem PySem.Spec PyProof.Rows L2
open PySem.Builtin.Int (intBits)

/-! ### while -/
/-- so many turns at most -/
def whileN (al : List Nat) (ft : Env → Res Bool) (fb : Env → Out) : Nat → Env → Out
  | 0, _ => .bad
  | n + 1, e => match ft e with
    | .ok true => match fb (fz al e) with
      | .nx e2 => whileN al ft fb n e2
      | .ct e2 => whileN al ft fb n e2
      | .bk e2 => .nx e2
      | .rt d => .rt d
      | .ro d => .ro d
      | .rm d e2 => .rm d e2
      | .ex c fs e2 => .ex c fs e2
      | .bad => .bad
    | .ok false => .nx (fz al e)
    | .exc c fs => .ex c fs (fz al e)
    | .bad => .bad
def Out.fine : Out → Prop
  | .bad => False
  | _ => True
open Classical in
/-- as many turns as it takes -/
noncomputable def sWhile (al : List Nat) (ft : Env → Res Bool) (fb : Env → Out) : Env → Out := fun e => if h : ∃ n, (whileN al ft fb n e).fine then whileN al ft fb (Classical.choose h) e else .bad
theorem whileN_more (al : List Nat) (ft : Env → Res Bool) (fb : Env → Out) : ∀ (n m : Nat) (e : Env), (whileN al ft fb n e).fine → n ≤ m → whileN al ft fb m e = whileN al ft fb n e
  | 0, _, _, h, _ => h.elim
  | n + 1, 0, _, _, hm => absurd hm (by omega)
  | n + 1, m + 1, e, h, hm => by
    dsimp only [whileN] at h ⊢
    cases hf : ft e with
    | exc c fs => rfl
    | bad => rfl
    | ok b =>
      cases b with
      | false => rfl
      | true =>
        simp only [hf] at h
        dsimp only
        cases hb : fb (fz al e) with
        | nx e2 => simp only [hb] at h; exact whileN_more al ft fb n m e2 h (by omega)
        | ct e2 => simp only [hb] at h; exact whileN_more al ft fb n m e2 h (by omega)
        | bk e2 => rfl
        | rt d => rfl
        | ro d => rfl
        | rm d e2 => rfl
        | ex c fs e2 => rfl
        | bad => rfl
theorem sWhile_of {al : List Nat} {ft : Env → Res Bool} {fb : Env → Out} {e : Env} {n : Nat} (h : (whileN al ft fb n e).fine) : sWhile al ft fb e = whileN al ft fb n e := by
  unfold sWhile
  have hx : ∃ n, (whileN al ft fb n e).fine := ⟨n, h⟩
  rw [dif_pos hx]
  have hc := Classical.choose_spec hx
  rcases Nat.le_total n (Classical.choose hx) with z | z
  · exact whileN_more al ft fb n _ e h z
  · exact (whileN_more al ft fb _ n e hc z).symm
/-- one turn of a while -/
theorem sWhile_eq (al : List Nat) (ft : Env → Res Bool) (fb : Env → Out) (e : Env) : sWhile al ft fb e = (match ft e with
    | .ok true => match fb (fz al e) with
      | .nx e2 => sWhile al ft fb e2
      | .ct e2 => sWhile al ft fb e2
      | .bk e2 => .nx e2
      | .rt d => .rt d
      | .ro d => .ro d
      | .rm d e2 => .rm d e2
      | .ex c fs e2 => .ex c fs e2
      | .bad => .bad
    | .ok false => .nx (fz al e)
    | .exc c fs => .ex c fs (fz al e)
    | .bad => .bad) := by
  have step : ∀ e2, (∀ n, whileN al ft fb (n + 1) e = whileN al ft fb n e2) → sWhile al ft fb e = sWhile al ft fb e2 := fun e2 h => by
    by_cases hx : ∃ n, (whileN al ft fb n e2).fine
    · obtain ⟨n, hn⟩ := hx
      rw [sWhile_of hn, sWhile_of (n := n + 1) (by rw [h]; exact hn), h]
    · have hy : ¬ ∃ n, (whileN al ft fb n e).fine := fun ⟨n, hn⟩ => by
        cases n with
        | zero => exact hn
        | succ n => rw [h] at hn; exact hx ⟨n, hn⟩
      unfold sWhile
      rw [dif_neg hx, dif_neg hy]
  have one : ∀ r, r.fine → (∀ n, whileN al ft fb (n + 1) e = r) → sWhile al ft fb e = r := fun r hr h => by
    rw [sWhile_of (n := 1) (by rw [h 0]; exact hr), h 0]
  have none : (∀ n, whileN al ft fb (n + 1) e = .bad) → sWhile al ft fb e = .bad := fun h => by
    have hy : ¬ ∃ n, (whileN al ft fb n e).fine := fun ⟨n, hn⟩ => by
      cases n with
      | zero => exact hn
      | succ n => rw [h] at hn; exact hn
    unfold sWhile
    rw [dif_neg hy]
  cases hf : ft e with
  | exc c fs => exact one _ trivial fun n => by simp only [whileN, hf]
  | bad => exact none fun n => by simp only [whileN, hf]
  | ok b =>
    cases b with
    | false => exact one _ trivial fun n => by simp only [whileN, hf]
    | true =>
      dsimp only
      cases hb : fb (fz al e) with
      | nx e2 => exact step e2 fun n => by simp only [whileN, hf, hb]
      | ct e2 => exact step e2 fun n => by simp only [whileN, hf, hb]
      | bk e2 => exact one _ trivial fun n => by simp only [whileN, hf, hb]
      | rt d => exact one _ trivial fun n => by simp only [whileN, hf, hb]
      | ro d => exact one _ trivial fun n => by simp only [whileN, hf, hb]
      | rm d e2 => exact one _ trivial fun n => by simp only [whileN, hf, hb]
      | ex c fs e2 => exact one _ trivial fun n => by simp only [whileN, hf, hb]
      | bad => exact none fun n => by simp only [whileN, hf, hb]
section
variable {X : Cx} {W : WX} {H0 : Bas} {G0 : Hp} {al : List Nat} {ex : Expr} {es : List Expr} {pos apos cpos p1 p2 : Pos}
theorem ds_while {c : Expr} {body : List Stmt} {ft : Env → Res Bool} {fb : Env → Out} (hp : PassesOwn (model X.prog X.w) X.A X.env X.xe) (hc : DT X W (fun i => i ∈ al) c ft) (hb : DSs X W H0 G0 body fb) (hal : al = [] := by rfl) : DS X W H0 G0 (.While c body [] pos) (sWhile al ft fb) := by
  refine (ps_while hp hc hb).imp fun Z σ H ⟨e, G, S, p⟩ => ?_
  have hx : ∃ n, (whileN al ft fb n e).fine := by
    refine Classical.byContradiction fun h => ?_
    unfold sWhile at p
    rw [dif_neg h] at p
    exact p
  obtain ⟨n, hn⟩ := hx
  rw [sWhile_of hn] at p
  refine ⟨fun m σ2 H2 => ∃ e2 G2, StOk X.K H0 G0 σ2 e2 H2 G2 ∧ SPost X.K X.mg W H0 G0 (whileN al ft fb m e2) Z, ⟨n, e, G, S, p⟩, ?_⟩
  rintro m σ2 H2 ⟨e2, G2, S2, q2⟩
  cases m with
  | zero => exact q2.elim
  | succ m =>
    obtain ⟨GA, E, nxt⟩ := S2.exp0 al (fun i d hi => by rw [hal] at hi; cases hi)
    refine ⟨e2, GA, E, ?_⟩
    dsimp only [whileN] at q2
    cases hf : ft e2 with
    | exc c fs =>
      simp only [hf] at q2
      exact fun cls o H' s ix => q2 cls o σ2 H2 GA H' (nxt H2 GA (Ext.refl E.sub)) s ix
    | bad => simp only [hf] at q2; exact q2.elim
    | ok b =>
      intro H3 G3 x3
      have S3 := nxt H3 G3 x3
      cases b with
      | false =>
        simp only [hf] at q2
        dsimp only
        rw [if_neg Bool.false_ne_true]
        exact q2 σ2 H3 G3 S3
      | true =>
        simp only [hf] at q2
        dsimp only
        rw [if_pos rfl]
        refine ⟨fun σ' H' => ∃ e' G', StOk X.K H0 G0 σ' e' H' G' ∧ SPost X.K X.mg W H0 G0 (whileN al ft fb m e') Z, fun σ' H' h => ⟨m, Nat.lt_succ_self m, h⟩, _, G3, S3, ?_⟩
        cases hr : fb (fz al e2) with
        | nx e4 => simp only [hr] at q2; exact fun σ5 H5 G5 S5 => ⟨e4, G5, S5, q2⟩
        | ct e4 => simp only [hr] at q2; exact fun σ5 H5 G5 S5 => ⟨e4, G5, S5, q2⟩
        | bk e4 => simp only [hr] at q2; exact q2
        | rt d => simp only [hr] at q2; exact q2
        | ro d => simp only [hr] at q2; exact q2
        | rm d e4 => simp only [hr] at q2; exact q2
        | ex c fs e4 => simp only [hr] at q2; exact q2
        | bad => simp only [hr] at q2; exact q2.elim

/-! ### calls of defs -/
/-- what a def of so many parameters promises: what F says -/
def spD (K : PySem.W.Frag) (mg : Str → Option Value) (n : Nat) (F : List D → Res D) : Sp := fun vs H Q E => vs.length = n ∧ ∃ ds G, Sub G H ∧ RepL K G ds vs ∧ PostG K mg E H G (F ds) fun d H' G' => ∀ v, Rep K G' d v → Q v H'
structure CallOk (P : Program) (w : World) (K : PySem.W.Frag) (mg : Str → Option Value) (base : Heap) (k : Nat) (x : Str) (ps : List Str) (F : List D → Res D) : Prop where
  ok : ∃ f fd, mg x = some (.ref f) ∧ PySem.W.keepIn K (.ref f) = true ∧ Binds K fd ps [] ∧ FnOk P w K mg base (L2.CX P w) k f fd ps (spD K mg ps.length F)
def eCall (F : List D → Res D) (fs : Env → Res (List D)) : Env → Res D := fun e => (fs e).bind F
theorem de_call {A : Nat → Prop} {x : Str} {p : Pos} {k : Nat} {ps : List Str} {F : List D → Res D} {fs : Env → Res (List D)} (c : CallOk X.prog X.w X.K X.mg X.base k x ps F) (hr : Room k X.A) (hg : Gl X x) (tk : Takes X W) (ha : DA X W A (ex :: es) fs) (hl : LenIs fs ps.length) (hl2 : ∀ e ds, fs e = .ok ds → ps.length ≤ ds.length)
    (hdb : (x == ("__debug__" : Str)) = false := by decide) (he : starEach (ex :: es) X.env = (false, eval ex X.env) :: starEach es X.env := by rfl) (hpl : (backTo pos (starEach es X.env)).any (·.1) = false := by rfl) :
    DE X W A (.Call (.Name x p) (ex :: es) [] pos) (eCall F fs) := by
  obtain ⟨f, fd, hm, hk, hb, hF⟩ := c.ok
  refine (pe_callS hF hr hg hm hk hb (fun σ => passAt tk σ) ha hdb he hpl).imp fun σ H Q ⟨e, G, E, p⟩ => ⟨e, G, E, p.split.ifok fun ds H1 G1 hk x1 p1 vs rs => ?_⟩
  exact ⟨by rw [rs.length]; exact Nat.le_antisymm (hl e ds hk) (hl2 e ds hk), ds, G1, x1.gh, rs, p1⟩
/-- .. exactly so long -/
def LenEq (fs : Env → Res (List D)) (n : Nat) : Prop := ∀ e ds, fs e = .ok ds → ds.length = n
theorem leq_nil : LenEq aNil 0 := fun e ds h => by cases h; rfl
theorem leq_cons {f : Env → Res D} {fs : Env → Res (List D)} {n : Nat} (h : LenEq fs n) : LenEq (aCons f fs) (n + 1) := fun e ds q => by
  unfold aCons at q
  cases hf : f e with
  | ok d =>
    rw [hf] at q
    cases hs : fs e with
    | ok es => rw [hs] at q; cases q; exact congrArg (· + 1) (h e es hs)
    | exc c x => rw [hs] at q; cases q
    | bad => rw [hs] at q; cases q
  | exc c x => rw [hf] at q; cases q
  | bad => rw [hf] at q; cases q
theorem de_callE {A : Nat → Prop} {x : Str} {p : Pos} {k : Nat} {ps : List Str} {F : List D → Res D} {fs : Env → Res (List D)} (c : CallOk X.prog X.w X.K X.mg X.base k x ps F) (hr : Room k X.A) (hg : Gl X x) (tk : Takes X W) (ha : DA X W A (ex :: es) fs) (hl : LenEq fs ps.length)
    (hdb : (x == ("__debug__" : Str)) = false := by decide) (he : starEach (ex :: es) X.env = (false, eval ex X.env) :: starEach es X.env := by rfl) (hpl : (backTo pos (starEach es X.env)).any (·.1) = false := by rfl) :
    DE X W A (.Call (.Name x p) (ex :: es) [] pos) (eCall F fs) := de_call c hr hg tk ha (fun e ds h => Nat.le_of_eq (hl e ds h)) (fun e ds h => Nat.le_of_eq (hl e ds h).symm) hdb he hpl

/-! ### a def keeps its promise -/
def env0 (n m : Nat) (ds : List D) : Env := ds.map (fun d => some (d, false)) ++ List.replicate (m - n) none
def runDef (n m : Nat) (fb : Env → Out) : List D → Res D := fun ds => match fb (env0 n m ds) with
  | .rt d => .ok d
  | .ro d => .ok d
  | .rm d _ => .ok d
  | .nx _ => .ok .non
  | .ex c fs _ => .exc c fs
  | _ => .bad
abbrev wE (E : XK) : WX := fun cls o _ H => E cls o H
theorem fnD {P : Program} {w : World} {K : PySem.W.Frag} {mg : Str → Option Value} {base : Heap} {x qual : Str} {st : Stmt} {f : Addr} {fd : FuncData} {N ps : List Str} {k : Nat} {fb : Env → Out} (F : Fun K x qual st f fd) (S : FnScope N ps (defScope st))
    (hbody : ∀ (cdv : Value) (A : Around) (outer : List PySem.Env) (s : Shared) (H G : Hp) (E : XK), Room k (A.deeper (envOfC qual (defScope st) s.heap.objs.size f cdv)) →
      Takes (cxOf (L2.CX P w) P w K mg base N qual (defScope st) f cdv A outer s H E) (wE E) → PassesOwn (model P w) (A.deeper (envOfC qual (defScope st) s.heap.objs.size f cdv)) (envOfC qual (defScope st) s.heap.objs.size f cdv) (cxOf (L2.CX P w) P w K mg base N qual (defScope st) f cdv A outer s H E).xe →
      DSs (cxOf (L2.CX P w) P w K mg base N qual (defScope st) f cdv A outer s H E) (wE E) (Bas.of H) G (defBody st) fb) :
    FnOk P w K mg base (L2.CX P w) (k + 1) f fd ps (spD K mg ps.length (runDef ps.length N.length fb)) := by
  refine F.okX S (fun vs H Q E h => h.1) fun cdv A outer s H vs Q E hr h => ?_
  obtain ⟨hl, ds, G, sg, r, p⟩ := h
  refine ⟨_, (hbody cdv A outer s H G E hr (takes_of rfl rfl rfl rfl) (passes_of rfl)).lkR (fun D σ H q => q), ?_⟩
  show tS _ _ _ _ _ _ _ _ _
  refine ⟨env0 ps.length N.length ds, G, ?_, ?_⟩
  · have hps : ps.length ≤ N.length := by have := congrArg List.length S.pre; rw [List.length_take] at this; omega
    have hdl := r.length
    have get : ∀ (i : Nat) (d : D) (o : Bool), (env0 ps.length N.length ds)[i]? = some (some (d, o)) → o = false ∧ ds[i]? = some d := fun i d o h => by
      unfold env0 at h
      by_cases hi : i < ds.length
      · rw [List.getElem?_append_left (by simpa using hi), List.getElem?_map] at h
        cases q : ds[i]? with
        | none => rw [q] at h; cases h
        | some d' => rw [q] at h; cases h; exact ⟨rfl, rfl⟩
      · rw [List.getElem?_append_right (by simpa using hi), List.getElem?_replicate] at h
        split at h <;> cases h
    refine ⟨⟨Sub.refl _, Sub.refl _, sg, fun b z => .inl z⟩, ?_, fun i d h => ?_, fun i d h => ?_, fun i j d d' a h => ?_, fun i a d h => by cases h⟩
    · unfold L2.start env0
      simp only [List.length_append, List.length_map, List.length_replicate]
      omega
    · obtain ⟨_, h2⟩ := get i d false h
      obtain ⟨v, h3, h4⟩ := r.get h2
      refine ⟨v, ?_, h4⟩
      have hi : i < vs.length := (List.getElem?_eq_some_iff.mp h3).1
      unfold L2.start
      rw [List.getElem?_append_left (by simpa using hi), List.getElem?_map, h3]
      rfl
    · exact absurd (get i d true h).1 (by simp)
    · exact absurd (get i d true h).1 (by simp)
  · unfold runDef at p
    cases hr : fb (env0 ps.length N.length ds) with
    | rt d =>
      rw [hr] at p
      exact fun v H' G' x r => .here (p H' G' x v r)
    | ro d =>
      rw [hr] at p
      intro a H' G' x ha ga rc
      exact (own_lock x ha ga rc).imp fun H2 ⟨G2, y, r⟩ => p H2 G2 y _ r
    | nx e' =>
      rw [hr] at p
      exact fun σ' H' G' S' => p H' G' S'.ext .non rfl
    | ex c fs e' =>
      rw [hr] at p
      exact fun cls o σ' H' G' H2 S' s2 ix => p cls o H2 (S'.ext.hh.trans s2) ix
    | rm d e' =>
      rw [hr] at p
      exact fun v σ' H' G' S' r => .here (p H' G' S'.ext v r)
    | bk e' => rw [hr] at p; exact p.elim
    | ct e' => rw [hr] at p; exact p.elim
    | bad => rw [hr] at p; exact p.elim
/-- where nothing is promised -/
theorem fn_bad {P : Program} {w : World} {K : PySem.W.Frag} {mg : Str → Option Value} {base : Heap} {f : Addr} {fd : FuncData} {ps : List Str} {k : Nat} {F : List D → Res D} (h : ∀ ds, F ds = .bad) : FnOk P w K mg base (L2.CX P w) k f fd ps (spD K mg ps.length F) :=
  ⟨fun vs H Q E h => h.1, fun A outer s H args us vs Q E _ _ _ _ ⟨_, ds, G, _, _, p⟩ => by rw [h ds] at p; exact p.elim⟩
end
end DL

namespace DL
open PySem PySem.Spec PyProof.Rows L2
open PySem.Builtin.Int (intBits)

/-! ### comprehensions -/
def wipeE (e : Env) : List Nat → Env
  | [] => e
  | v :: vs => (wipeE e vs).set v none
theorem wipeE_length (e : Env) : ∀ vs : List Nat, (wipeE e vs).length = e.length
  | [] => rfl
  | v :: vs => by unfold wipeE; rw [List.length_set, wipeE_length e vs]
theorem wipe_other {σ : L2.St} {i : Nat} : ∀ {vs : List Nat}, i ∉ vs → (wipe σ vs)[i]? = σ[i]?
  | [], _ => rfl
  | v :: vs, h => by
    unfold wipe
    rw [List.getElem?_set_ne (fun z => h (by simp [z])), wipe_other (fun z => h (by simp [z]))]
theorem wipeE_get {e : Env} {i : Nat} {x : D × Bool} : ∀ {vs : List Nat}, (wipeE e vs)[i]? = some (some x) → e[i]? = some (some x) ∧ i ∉ vs
  | [], h => ⟨h, by simp⟩
  | v :: vs, h => by
    unfold wipeE at h
    rcases set_get h with ⟨_, z⟩ | ⟨hi, z⟩
    · cases z
    · obtain ⟨a, b⟩ := wipeE_get z
      exact ⟨a, by simp [hi, b]⟩
theorem wipe_set {σ : L2.St} {i : Nat} {x : Option V} : ∀ {vs : List Nat}, i ∈ vs → wipe (σ.set i x) vs = wipe σ vs
  | [], h => by simp at h
  | v :: vs, h => by
    unfold wipe
    by_cases hv : i ∈ vs
    · rw [wipe_set hv]
    · have e : i = v := by simpa [hv] using h
      subst e
      have key : ∀ (ws : List Nat) (τ : L2.St), i ∉ ws → wipe (τ.set i x) ws = (wipe τ ws).set i x := by
        intro ws
        induction ws with
        | nil => intro τ _; rfl
        | cons w ws ih =>
          intro τ hw
          unfold wipe
          rw [ih τ (fun z => hw (by simp [z])), List.set_comm _ _ (fun z => hw (by simp [z]))]
      rw [key vs σ hv, List.set_set]
theorem wipe_idem {σ : L2.St} : ∀ (vs : List Nat), wipe (wipe σ vs) vs = wipe σ vs := by
  have swap : ∀ (ws : List Nat) (τ : L2.St) (i : Nat), wipe (τ.set i none) ws = (wipe τ ws).set i none := by
    intro ws
    induction ws with
    | nil => intro τ i; rfl
    | cons w ws ih =>
      intro τ i
      unfold wipe
      rw [ih]
      by_cases h : i = w
      · subst h; rfl
      · rw [List.set_comm _ _ h]
  intro vs
  induction vs with
  | nil => rfl
  | cons v vs ih =>
    show (wipe ((wipe σ vs).set v none) vs).set v none = (wipe σ vs).set v none
    rw [swap, ih, List.set_set]
theorem EnvG.wipe {K : PySem.W.Frag} {A : Nat → Prop} {σ : L2.St} {e : Env} {H G : Hp} (h : EnvG K A σ e H G) (vs : List Nat) : EnvG K A (L2.wipe σ vs) (wipeE e vs) H G :=
  ⟨h.sub, by rw [wipe_length, wipeE_length]; exact h.len, fun i d o hi => by
    obtain ⟨a, b⟩ := wipeE_get hi
    rw [wipe_other b]
    exact h.val i d o a⟩
theorem EnvG.set {K : PySem.W.Frag} {A : Nat → Prop} {σ : L2.St} {e : Env} {H G : Hp} (h : EnvG K A σ e H G) (i : Nat) {d : D} {v : V} (r : Rep K G d v) : EnvG K A (σ.set i (some v)) (e.set i (some (d, false))) H G :=
  ⟨h.sub, by rw [List.length_set, List.length_set]; exact h.len, fun j d' o hj => by
    rcases set_get hj with ⟨rfl, z⟩ | ⟨hij, z⟩
    · cases z
      have hl : j < e.length := by
        by_cases hl : j < e.length
        · exact hl
        · rw [List.getElem?_eq_none (by simpa using hl)] at hj; cases hj
      exact ⟨v, List.getElem?_set_self (by rw [h.len]; exact hl), fun _ => r, r.c h.sub⟩
    · rw [List.getElem?_set_ne (Ne.symm hij)]
      exact h.val j d' o z⟩
/-- the items: what is walked, by the pattern, where the test holds -/
def compL (e : Env) (p : Pat) (ft : Env → Res Bool) (fe : Env → Res D) : List D → Res (List D)
  | [] => .ok []
  | d :: ds => match p.bind d e with
    | .ok e1 => match ft e1 with
      | .ok true => match fe e1 with
        | .ok y => (compL e p ft fe ds).bind fun ys => .ok (y :: ys)
        | _ => .bad
      | .ok false => compL e p ft fe ds
      | _ => .bad
    | _ => .bad
def bYes : Env → Res Bool := fun _ => .ok true
def eComp (own : List Nat) (p : Pat) (fi : Env → Res (List D)) (ft : Env → Res Bool) (fe : Env → Res D) : Env → Res D := fun e => (fi e).bind fun ds => if ds.length ≤ sizeLine then (match compL (wipeE e own) p ft fe ds with
  | .ok ys => .ok (.lst ys)
  | _ => .bad) else .bad
abbrev WF : WX := fun _ _ _ _ => False
abbrev DTs (X : Cx) (A : Nat → Prop) (ifs : List Expr) (f : Env → Res Bool) : Prop := PTs X ifs (tT X.K X.mg WF A f)
theorem dts_nil {X : Cx} {A : Nat → Prop} : DTs X A [] bYes := ⟨fun pins s σ H Q I ⟨e, G, E, p⟩ => pts_nil.run pins s σ H Q I (p.here E.sub)⟩
theorem dts_one {X : Cx} {A : Nat → Prop} {c : Expr} {f : Env → Res Bool} (h : DT X WF A c f) : DTs X A [c] f := pts_one h
/-- the reading of a comprehension, from the data's -/
theorem comp_imp {K : PySem.W.Frag} {mg : Str → Option Value} {W : WX} {A : Nat → Prop} {own : List Nat} {p : Pat} {fi : Env → Res (List D)} {ft : Env → Res Bool} {fe : Env → Res D} {g : TG} (hsl : ∀ i ∈ p.slots, i ∈ own)
    (hg : ∀ (R : L2.St → Env → Hp → Hp → Prop), Setable K p.slots R → ∀ (v : V) (σ : L2.St) (H G : Hp) (d : D) (e e' : Env) (Q : L2.St → Hp → Prop), R σ e H G → Sub G H → Rep K G d v → p.bind d e = .ok e' → (∀ σ', R σ' e' H G → Q σ' H) → g v σ H Q)
    (σ : L2.St) (H : Hp) (Q : VK) (q : tF K mg W A (eComp own p fi ft fe) σ H Q) : tLc (tIR K mg W A fi) g (tT K mg WF A ft) (tD K mg WF A fe) own σ H Q := by
  obtain ⟨e, G, E, pp⟩ := q
  refine ⟨e, G, E, pp.split.imp fun ds H1 G1 x1 p1 J w D0 hD => ?_⟩
  have E1 := E.ext x1
  by_cases hz : ds.length ≤ sizeLine
  · rw [if_pos hz] at p1
    cases hc : compL (wipeE e own) p ft fe ds with
    | exc c fs => rw [hc] at p1; exact p1.elim
    | bad => rw [hc] at p1; exact p1.elim
    | ok total =>
      rw [hc] at p1
      have gD : G1 D0 = none := x1.gh.free hD
      refine ⟨fun i m H2 => m = ds.length - i ∧ i ≤ ds.length ∧ ∃ (G2 : Hp) (acc : List D) (accV : List V) (rest : List D), Ext H1 G1 H2 G2 ∧ G2 D0 = none ∧ H2 D0 = some (.lst accV) ∧ RepL K G2 acc accV ∧ acc.length ≤ i ∧ compL (wipeE e own) p ft fe (ds.drop i) = .ok rest ∧ acc ++ rest = total,
        ⟨ds.length, rfl, Nat.zero_le _, G1, [], [], total, ⟨Sub.upd hD, Sub.refl _, x1.gh.trans (Sub.upd hD), fun b z => .inl z⟩, gD, upd_same, rfl, Nat.zero_le _, hc, rfl⟩, ?_⟩
      rintro i m H2 ⟨rfl, hi, G2, acc, accV, rest, x2, g2, h2, r2, ha, hr, ht⟩
      by_cases hlt : i < ds.length
      · refine .inr ⟨w.go H2 i x2.hh hlt, fun H3 => ∃ (G3 : Hp) (acc : List D) (accV : List V) (rest : List D), Ext H1 G1 H3 G3 ∧ G3 D0 = none ∧ H3 D0 = some (.lst accV) ∧ RepL K G3 acc accV ∧ acc.length ≤ i + 1 ∧ compL (wipeE e own) p ft fe (ds.drop (i + 1)) = .ok rest ∧ acc ++ rest = total, fun H3 h => ⟨ds.length - (i + 1), by omega, rfl, hlt, h⟩, fun x H3 y => ?_⟩
        obtain ⟨d, G3, hd, x3, rd⟩ := w.yld H2 G2 i x H3 x2.hh x2.gg x2.gh hlt y
        have x13 := x2.trans x3
        have n3 : ∀ {H' G' : Hp}, Ext H2 G2 H' G' → G' D0 = none := fun {H' G'} x => by
          cases hga : G' D0 with
          | none => rfl
          | some u =>
            rcases x.new D0 (by rw [hga]; simp) with z | z
            · exact absurd g2 z
            · rcases z with z | ⟨_, z⟩ <;> (rw [h2] at z; cases z)
        have e0 : ds.drop i = d :: ds.drop (i + 1) := by
          rw [List.drop_eq_getElem_cons hlt]
          have : ds[i] = d := by
            have := List.getElem?_eq_getElem hlt
            rw [hd] at this
            exact (Option.some.inj this).symm
          rw [this]
        rw [e0] at hr
        dsimp only [compL] at hr
        cases hb : p.bind d (wipeE e own) with
        | exc c fs => rw [hb] at hr; cases hr
        | bad => rw [hb] at hr; cases hr
        | ok e1 =>
          rw [hb] at hr
          dsimp only at hr
          refine hg (fun σ' e' H' G' => EnvG K A σ' e' H' G' ∧ L2.wipe σ' own = L2.wipe σ own) (fun σ' e' H' G' j d' v hj ⟨R1, R2⟩ r => ⟨R1.set j r, by rw [wipe_set (hsl j hj)]; exact R2⟩) x (L2.wipe σ own) H3 G3 d (wipeE e own) e1 _ ⟨(E1.ext x13).wipe own, wipe_idem own⟩ x3.gh rd hb fun σ' ⟨R1, R2⟩ => ⟨R2, e1, G3, R1, ?_⟩
          cases hft : ft e1 with
          | exc c fs => rw [hft] at hr; cases hr
          | bad => rw [hft] at hr; cases hr
          | ok b =>
            rw [hft] at hr
            intro H4 G4 x4
            cases b with
            | false =>
              dsimp only at hr ⊢
              rw [if_neg Bool.false_ne_true]
              exact ⟨G4, acc, accV, rest, x13.trans x4, n3 (x3.trans x4), x4.hh _ _ (x3.hh _ _ h2), (r2.mono x3.gg).mono x4.gg, Nat.le_succ_of_le ha, hr, ht⟩
            | true =>
              dsimp only at hr ⊢
              rw [if_pos rfl]
              refine ⟨e1, G4, R1.ext x4, ?_⟩
              cases hfe : fe e1 with
              | exc c fs => rw [hfe] at hr; cases hr
              | bad => rw [hfe] at hr; cases hr
              | ok y =>
                rw [hfe] at hr
                dsimp only at hr
                intro H5 G5 x5 yv ry
                cases hcr : compL (wipeE e own) p ft fe (ds.drop (i + 1)) with
                | exc c fs => rw [hcr] at hr; cases hr
                | bad => rw [hcr] at hr; cases hr
                | ok rest' =>
                  rw [hcr] at hr
                  cases hr
                  have x25 := (x3.trans x4).trans x5
                  have x15 := x2.trans x25
                  have n5 := n3 x25
                  have h5 := x25.hh _ _ h2
                  refine ⟨accV, h5, ?_, G5, acc ++ [y], accV ++ [yv], rest', ⟨fun b o z => ?_, x15.gg, fun b o z => ?_, x15.new⟩, n5, upd_same, (r2.mono x25.gg).append (.cons ry rfl), ?_, rfl, ?_⟩
                  · rw [r2.length]; omega
                  · have nb : b ≠ D0 := fun q => by rw [q, hD] at z; cases z
                    rw [upd_ne nb]; exact x15.hh _ _ z
                  · have nb : b ≠ D0 := fun q => by rw [q, n5] at z; cases z
                    rw [upd_ne nb]; exact x15.gh _ _ z
                  · rw [List.length_append, List.length_singleton]; omega
                  · rw [← ht, List.append_assoc]; rfl
      · have ei : i = ds.length := by omega
        subst ei
        refine .inl ⟨w.stop H2 x2.hh, ?_⟩
        rw [List.drop_length] at hr
        cases hr
        rw [List.append_nil] at ht
        subst ht
        exact p1 H2 G2 x2 D0 (x1.hh.free hD) g2 ⟨accV, h2, r2⟩
  · rw [if_neg hz] at p1; exact p1.elim
section
variable {X : Cx} {W : WX} {H0 : Bas} {G0 : Hp} {A : Nat → Prop} {al : List Nat} {pos spos : Pos}
theorem df_comp {elt tg iter : Expr} {ifs : List Expr} {scope : Scope} {own : List (Str × Nat)} {p : Pat} {fi : Env → Res (List D)} {ft : Env → Res Bool} {fe : Env → Res D} (hc : X.calm = true) (hN : X.N.Nodup) (hi : DIR X W A tg iter fi) (ok : BlkOk X.N X.env.scope scope own)
    (hg : ∀ (s : Shared) (H : Hp) (C : Addr) (cl : List (Str × Addr)) (fp : List Addr), DG (X.blk s H scope (compEnvC scope cl C X.env) fp) tg p) (ht : ∀ (s : Shared) (H : Hp) (C : Addr) (cl : List (Str × Addr)) (fp : List Addr), DTs (X.blk s H scope (compEnvC scope cl C X.env) fp) A ifs ft)
    (he : ∀ (s : Shared) (H : Hp) (C : Addr) (cl : List (Str × Addr)) (fp : List Addr), DE (X.blk s H scope (compEnvC scope cl C X.env) fp) WF A elt fe) (hsl : ∀ i ∈ p.slots, i ∈ own.map (·.2)) (hs : ∀ x, foldedSetIterable iter X.env x = pure x := by intro _; rfl) :
    DF X W A (.ListComp elt [⟨tg, iter, ifs, 0⟩] scope pos) (eComp (own.map (·.2)) p fi ft fe) := by
  let g0 : TG := fun v σ H Q => ∃ (R : L2.St → Env → Hp → Hp → Prop) (G : Hp) (d : D) (e e' : Env), Setable X.K p.slots R ∧ R σ e H G ∧ Sub G H ∧ Rep X.K G d v ∧ p.bind d e = .ok e' ∧ ∀ σ', R σ' e' H G → Q σ' H
  have hg' : ∀ (s : Shared) (H : Hp) (C : Addr) (cl : List (Str × Addr)) (fp : List Addr), PG (X.blk s H scope (compEnvC scope cl C X.env) fp) tg g0 := fun s H C cl fp => by
    obtain ⟨g, g1, g2⟩ := hg s H C cl fp
    exact ⟨fun pins s σ H v u Q I r ⟨R, G, d, e, e', a1, a2, a3, a4, a5, a6⟩ => g1.run pins s σ H v u Q I r (g2 R a1 v σ H G d e e' Q a2 a3 a4 a5 a6)⟩
  exact (pe_lc hc hN hi ok hg' ht he hs).imp (comp_imp (mg := X.mg) hsl fun R hR v σ H G d e e' Q a1 a2 a3 a4 a5 => ⟨R, G, d, e, e', hR, a1, a2, a3, a4, a5⟩)
/-- y = [..] -/
theorem ds_comp {i : Nat} {y : Str} {py : Pos} {elt tg iter : Expr} {ifs : List Expr} {scope : Scope} {own : List (Str × Nat)} {p : Pat} {fi : Env → Res (List D)} {ft : Env → Res Bool} {fe : Env → Res D} (fresh : Bool) (hc : X.calm = true) (hN : X.N.Nodup) (hy : X.N[i]? = some y) (hyl : X.env.scope.names.lookup y = some .local)
    (hsw : swapsWith (.ListComp elt [⟨tg, iter, ifs, 0⟩] scope pos) (some (.Name y py)) spos.line X.env = pure true) (hi : DIR X W (fun i => i ∈ al) tg iter fi) (ok : BlkOk X.N X.env.scope scope own)
    (hg : ∀ (s : Shared) (H : Hp) (C : Addr) (cl : List (Str × Addr)) (fp : List Addr), DG (X.blk s H scope (compEnvC scope cl C X.env) fp) tg p) (ht : ∀ (s : Shared) (H : Hp) (C : Addr) (cl : List (Str × Addr)) (fp : List Addr), DTs (X.blk s H scope (compEnvC scope cl C X.env) fp) (fun i => i ∈ al) ifs ft)
    (he : ∀ (s : Shared) (H : Hp) (C : Addr) (cl : List (Str × Addr)) (fp : List Addr), DE (X.blk s H scope (compEnvC scope cl C X.env) fp) WF (fun i => i ∈ al) elt fe) (hsl : ∀ i ∈ p.slots, i ∈ own.map (·.2)) (hs : ∀ x, foldedSetIterable iter X.env x = pure x := by intro _; rfl) (hpin : H0.pin i = none := by rfl) :
    DS X W H0 G0 (.Assign [.Name y py] (.ListComp elt [⟨tg, iter, ifs, 0⟩] scope pos) spos) (if fresh = true then sSetF al i (eComp (own.map (·.2)) p fi ft fe) else sSet al i (eComp (own.map (·.2)) p fi ft fe)) := by
  let g0 : TG := fun v σ H Q => ∃ (R : L2.St → Env → Hp → Hp → Prop) (G : Hp) (d : D) (e e' : Env), Setable X.K p.slots R ∧ R σ e H G ∧ Sub G H ∧ Rep X.K G d v ∧ p.bind d e = .ok e' ∧ ∀ σ', R σ' e' H G → Q σ' H
  have hg' : ∀ (s : Shared) (H : Hp) (C : Addr) (cl : List (Str × Addr)) (fp : List Addr), PG (X.blk s H scope (compEnvC scope cl C X.env) fp) tg g0 := fun s H C cl fp => by
    obtain ⟨g, g1, g2⟩ := hg s H C cl fp
    exact ⟨fun pins s σ H v u Q I r ⟨R, G, d, e, e', a1, a2, a3, a4, a5, a6⟩ => g1.run pins s σ H v u Q I r (g2 R a1 v σ H G d e e' Q a2 a3 a4 a5 a6)⟩
  have h1 := ps_setLc (tt := tT X.K X.mg WF (fun i => i ∈ al) ft) (te := tD X.K X.mg WF (fun i => i ∈ al) fe) hc hN hy hyl hsw hi ok hg' ht he hs
  have h2 := fun σ H Q => comp_imp (K := X.K) (mg := X.mg) (W := W) (A := fun i => i ∈ al) (own := own.map (·.2)) (p := p) (fi := fi) (ft := ft) (fe := fe) (g := g0) hsl (fun R hR v σ H G d e e' Q a1 a2 a3 a4 a5 => ⟨R, G, d, e, e', hR, a1, a2, a3, a4, a5⟩) σ H Q
  have hlst : ∀ e d, eComp (own.map (·.2)) p fi ft fe e = .ok d → d.isDct = false := fun e d h => by
    unfold eComp at h
    cases hi : fi e with
    | ok ds =>
      rw [hi, Res.bind_ok] at h
      split at h
      · split at h
        · cases h; rfl
        · cases h
      · cases h
    | exc c fs => rw [hi] at h; cases h
    | bad => rw [hi] at h; cases h
  generalize eComp (own.map (·.2)) p fi ft fe = f at h2 hlst ⊢
  have hF : DS X W H0 G0 (.Assign [.Name y py] (.ListComp elt [⟨tg, iter, ifs, 0⟩] scope pos) spos) (sSetF al i f) := h1.lk fun Z σ H ⟨e, G, S, p⟩ => (S.exp al).imp fun H ⟨G1, GA, S1, E, nxt⟩ => h2 σ H _ (by
    refine ⟨e, GA, E, ?_⟩
    unfold sSetF sE at p
    cases hr : f e with
    | ok d =>
      rw [hr] at p
      intro H' G' x a ha ga rc
      have S' := nxt H' G' x
      refine p _ H' G' (S'.setF i (Hb := H) S1.ext.hh (fun j d' b h1 h2 => ?_) ha ga rc hpin)
      have w1 := fz_fzD_own h1
      obtain ⟨a', q1, _, _, q4⟩ := S1.ow j d' w1
      rw [h2] at q1; cases q1
      exact q4.is
    | exc c fs =>
      rw [hr] at p
      exact fun cls o H' s ix => p cls o σ H GA H' (nxt H GA (Ext.refl E.sub)) s ix
    | bad => rw [hr] at p; exact p.elim)
  cases fresh with
  | true => exact hF
  | false =>
    refine h1.lk fun Z σ H hq => (sE_step (f := f) (k := fun d e => .nx (e.set i (some (d, false)))) hq).imp fun H ⟨e, G, E, p⟩ => h2 σ H _ ?_
    refine ⟨e, G, E, ?_⟩
    have p2 := p.imp (R' := fun d H' G' => ∀ v, Rep X.K G' d v → gName i v σ H' Z.nx) fun d H' G' _ ⟨S, q⟩ v r => q _ H' G' (S.set i r)
    cases hr : f e with
    | exc c fs => rw [hr] at p2; exact p2
    | bad => rw [hr] at p2; exact p2
    | ok d =>
      rw [hr] at p2
      intro H' G' x a ha ga rc
      have sg : Sub G' (fun b => if b = a then H' b else G' b) := fun b o q => by
        show (if b = a then H' b else G' b) = some o
        by_cases hb : b = a
        · subst hb; rw [ga] at q; cases q
        · rw [if_neg hb]; exact q
      refine p2 H' (fun b => if b = a then H' b else G' b) ⟨x.hh, x.gg.trans sg, fun b o q => ?_, fun b q => ?_⟩ (.ref a) (rc.put (hlst _ _ hr) sg (if_pos rfl))
      · have q' : (if b = a then H' b else G' b) = some o := q
        by_cases hb : b = a
        · rw [if_pos hb] at q'; exact q'
        · rw [if_neg hb] at q'; exact x.gh _ _ q'
      · have q' : (if b = a then H' b else G' b) ≠ none := q
        by_cases hb : b = a
        · subst hb; exact .inr (.inl ha)
        · rw [if_neg hb] at q'; exact x.new b q'
end
end DL

namespace DL
open PySem PySem.Spec PyProof.Rows L2
open PySem.Builtin.Int (intBits)

/-! ### a name that never holds a list to be changed -/
def eVarS (i : Nat) : Env → Res D := fun e => match e[i]? with
  | some (some (d, false)) => .ok d
  | _ => .bad
section
variable {X : Cx} {W : WX} {A : Nat → Prop} {a b : Expr} {rest : List Expr} {pos p p1 p2 : Pos} {x T : Str} {H0 : Bas} {G0 : Hp}
theorem de_vs {i : Nat} {x : Str} {pos : Pos} (hN : X.N[i]? = some x) (hv : Vis X.env.scope x) (hd : (x == ("__debug__" : Str)) = false := by decide) (hcd : (x == ("__classdict__" : Str)) = false := by decide) : DE X W A (.Name x pos) (eVarS i) :=
  (pe_var hN hv hd hcd).imp fun σ H Q ⟨e, G, E, p⟩ => by
    unfold eVarS at p
    cases h : e[i]? with
    | none => rw [h] at p; exact p.elim
    | some s => cases s with
      | none => rw [h] at p; exact p.elim
      | some z =>
        obtain ⟨d, o⟩ := z
        rw [h] at p
        cases o with
        | true => exact p.elim
        | false =>
          obtain ⟨v, h1, h2, h3⟩ := E.val i d false h
          exact ⟨v, h1, p.here E.sub v (h2 (.inr rfl))⟩

/-! ### isinstance -/
/-- the name of the data's own type -/
def D.tyN : D → Option String
  | .non => some "NoneType"
  | .bl _ => some "bool"
  | .int _ => some "int"
  | .str _ => some "str"
  | .tup _ => some "tuple"
  | .con _ => some "tuple"
  | .lst _ => some "list"
  | _ => none
def isInt : D → Res D
  | .int _ => .ok (.bl true)
  | .bl _ => .ok (.bl true)
  | d => if d.tyN = none then .bad else .ok (.bl false)
def isBool : D → Res D
  | .bl _ => .ok (.bl true)
  | d => if d.tyN = none then .bad else .ok (.bl false)
def isTup : D → Res D
  | .tup _ => .ok (.bl true)
  | .con _ => .ok (.bl true)
  | d => if d.tyN = none then .bad else .ok (.bl false)
def isStr : D → Res D
  | .str _ => .ok (.bl true)
  | d => if d.tyN = none then .bad else .ok (.bl false)
def isList : D → Res D
  | .lst _ => .ok (.bl true)
  | d => if d.tyN = none then .bad else .ok (.bl false)
/-- g says which data is of the type T -/
def IsOf (T : String) (g : D → Res D) : Prop := ∀ d, (∀ t, d.tyN = some t → ∃ b, kitB t T = some b ∧ g d = .ok (.bl b)) ∧ (d.tyN = none → g d = .bad)
theorem is_int : IsOf "int" isInt := fun d => ⟨fun t h => by cases d <;> cases h <;> exact ⟨_, by decide +kernel, rfl⟩, fun h => by cases d <;> first | rfl | cases h⟩
theorem is_bool : IsOf "bool" isBool := fun d => ⟨fun t h => by cases d <;> cases h <;> exact ⟨_, by decide +kernel, rfl⟩, fun h => by cases d <;> first | rfl | cases h⟩
theorem is_tup : IsOf "tuple" isTup := fun d => ⟨fun t h => by cases d <;> cases h <;> exact ⟨_, by decide +kernel, rfl⟩, fun h => by cases d <;> first | rfl | cases h⟩
theorem is_str : IsOf "str" isStr := fun d => ⟨fun t h => by cases d <;> cases h <;> exact ⟨_, by decide +kernel, rfl⟩, fun h => by cases d <;> first | rfl | cases h⟩
theorem is_list : IsOf "list" isList := fun d => ⟨fun t h => by cases d <;> cases h <;> exact ⟨_, by decide +kernel, rfl⟩, fun h => by cases d <;> first | rfl | cases h⟩
theorem tyX {K : PySem.W.Frag} {H G : Hp} {d : D} {v : V} {t : String} (g : Sub G H) (r : RepC K H G d v) (h : d.tyN = some t) : TyX K H v (.type t) := by
  cases d with
  | non => cases h; cases (show v = .non from r); exact .base .non
  | bl b => cases h; cases (show v = .bl b from r); exact .base (.bl b)
  | int i => cases h; cases (show v = .int i from r); exact .base (.int i)
  | str x => cases h; cases (show v = .str x from r); exact .base (.str x)
  | tup ds =>
    cases h
    obtain ⟨a, vs, e, s, _⟩ := (show Rep K G (.tup ds) v from r)
    subst e
    rcases g.pt (K := K) s with (q | ⟨o, q⟩) | ⟨o, its, n, q1, q2, _⟩
    · exact .base (.tup q)
    · exact .fTuple q
    · exact .kTuple q1 q2
  | con ds =>
    cases h
    obtain ⟨a, vs, e, s, _⟩ := (show Rep K G (.con ds) v from r)
    subst e
    rcases g.sqt (K := K) s with (q | ⟨o, q⟩) | ⟨o, its, n, q1, q2, _⟩
    · exact .base (.tup q)
    · exact .fTuple q
    · exact .kTuple q1 q2
  | lst ds =>
    cases h
    obtain ⟨a, vs, e, s, _⟩ := r
    subst e
    rcases s with (q | ⟨o, q⟩) | ⟨o, its, n, q1, q2, _⟩
    · exact .base (.lst q)
    · exact .base (.frz q)
    · exact .kList q1 q2
  | _ => cases h
theorem de_isi {x T : Str} {n : String} {g : D → Res D} {f : Env → Res D} (ho : IsOf n g) (hg : Gl X x) (hm : X.mg x = none) (hv : bootBuiltins x = some (.builtin "isinstance")) (ha : DR X W A a f) (hgT : Gl X T) (hmT : X.mg T = none) (hvT : bootBuiltins T = some (.type n))
    (hnx : x ≠ "__name__" := by decide) (hnT : T ≠ "__name__" := by decide) (hdT : (T == ("__debug__" : Str)) = false := by decide) (hdb : (x == ("__debug__" : Str)) = false := by decide)
    (he : starEach (a :: [.Name T p2]) X.env = (false, eval a X.env) :: starEach [.Name T p2] X.env := by rfl) (he2 : starEach (.Name T p2 :: []) X.env = (false, eval (.Name T p2) X.env) :: starEach [] X.env := by rfl) (hpl : (backTo pos (starEach [.Name T p2] X.env)).any (·.1) = false := by rfl) :
    DE X W A (.Call (.Name x p) [a, .Name T p2] [] pos) (e1 g f) := by
  refine (pe_callB call_isi hg hm hv (pa_cons ha (pa_cons (pe_bltn hgT hmT hvT (v := .ty n) rfl hnT hdT) pa_nil he2) he) hnx hdb he hpl).imp fun σ H Q ⟨e, G, E, p⟩ => ?_
  refine ⟨e, G, E, p.split.imp fun d H1 G1 x1 p1 v rv => ?_⟩
  cases ht : d.tyN with
  | none => rw [(ho d).2 ht] at p1; exact p1.elim
  | some t =>
    obtain ⟨b, k1, k2⟩ := (ho d).1 t ht
    rw [k2] at p1
    exact ⟨v, .ty n, .type t, .type n, b, rfl, .ty n, tyX x1.gh rv ht, kit_ty k1, p1.val x1.gh rfl⟩

/-! ### raise, try -/
structure ExcOk (K : PySem.W.Frag) (mg : Str → Option Value) (c : String) : Prop where
  ok : ∃ C B newId initId bmB, PySem.ExcBaseFacts B newId initId bmB ∧ PySem.W.excIn K C bmB newId = true ∧ mg (Str.ofString c) = some (.ref C) ∧ PySem.W.keepIn K (.ref C) = true ∧
    PySem.W.subIn K (.ref C) (.type "BaseException") = some true ∧ PySem.W.typeIn K (.ref C) = some (.type "type")
def sRaise (c : String) : Env → Out := fun e => .ex c [] e
theorem ds_raise {c : String} {m : Str} {j : Nat} (hx : ExcOk X.K X.mg c) (hc : X.calm = true) (tk : Takes X W) (hg : Gl X (Str.ofString c)) (hdb : (Str.ofString c == ("__debug__" : Str)) = false := by decide) :
    DS X W H0 G0 (.Raise (some (.Call (.Name (Str.ofString c) p) [.Constant (.str m) j p2] [] p1)) none pos) (sRaise c) := by
  obtain ⟨C, B, newId, initId, bmB, F, q, gC, kC, b1, b2⟩ := hx.ok
  exact (ps_raise hc tk (pmk_own F q gC kC (raises_own b1 b2) hg hdb)).imp fun Z σ H ⟨e, G, S, p⟩ => p (.ref C) none σ H G H S (Sub.refl H) ⟨gC, rfl⟩
/-- what "except X" does at each class -/
def Clause (K : PySem.W.Frag) (mg : Str → Option Value) (c : Value) (h : String → Option Bool) : Prop := ∀ k b cls, h k = some b → mg (Str.ofString k) = some cls → PySem.W.exmOne K cls c = some b
/-- nothing is raised out of here -/
def noEx (r : Out) : Out := match r with
  | .ex _ _ _ => .bad
  | r => r
def sTry (h : String → Option Bool) (fb fs : Env → Out) : Env → Out := fun e => match fb e with
  | .ex c fs' e' => match h c with
    | some true => noEx (fs e')
    | some false => .ex c fs' e'
    | none => .bad
  | r => r
theorem SPost.noEx {K : PySem.W.Frag} {mg : Str → Option Value} {W W' : WX} {r : Out} {Z : Ends} (p : SPost K mg W H0 G0 (noEx r) Z) : SPost K mg W' H0 G0 r Z := by
  cases r with
  | ex c fs e => exact p.elim
  | bad => exact p.elim
  | _ => exact p
theorem ds_try {x : Str} {c : Value} {body suite : List Stmt} {b₀ : Stmt} {np pos' : Pos} {h : String → Option Bool} {fb fs : Env → Out} (hs : X.stack = X.env :: X.outer) (hf : X.env.frame = some X.env.locals) (hc : Names X x c) (tk : Takes X W)
    (hh : Clause X.K X.mg c h)
    (hb : ∀ (W' : WX) (pn : List (Addr × Obj)) (xe : Value → Shared → Prop), Takes (X.tr pn xe) W' → PassesOwn (model X.prog X.w) X.A X.env xe → DSs (X.tr pn xe) W' H0 G0 body fb)
    (hsu : ∀ (a : Addr) (pn : List (Addr × Obj)), DSs (X.suite a pn) WF H0 G0 (b₀ :: suite) fs) :
    DS X W H0 G0 (.Try body [.ExceptHandler (some (.Name x np)) none (b₀ :: suite) pos'] [] [] pos) (sTry h fb fs) := by
  refine (ps_try_only (tb := fun W' => tS X.K X.mg W' H0 G0 fb) (ts := fun _ _ _ => tS X.K X.mg WF H0 G0 fs) hs hf hc tk hb (fun a oe cls d pn _ _ => hsu a ((a, oe) :: pn))).imp fun Z σ H ⟨e, G, S, p⟩ => ⟨e, G, S, ?_⟩
  unfold sTry at p
  cases hr : fb e with
  | ex k fs' e' =>
    rw [hr] at p
    dsimp only at p
    refine fun cls o σ' H' G' H2 S' s2 ix => ?_
    cases hk : h k with
    | none => rw [hk] at p; exact p.elim
    | some b =>
      refine ⟨b, hh k b cls hk ix.1, fun eb a _ => ?_, fun eb => ?_⟩
      · subst eb
        rw [hk] at p
        have S2 : StOk X.K H0 G0 σ' e' H2 G' := ⟨⟨S'.ext.hh.trans s2, S'.ext.gg, S'.ext.gh.trans s2, S'.ext.new⟩, S'.len, S'.sh, fun i d h => let ⟨a, q1, q2, q3, q4⟩ := S'.ow i d h; ⟨a, q1, q2, q3, q4.mono s2 (Sub.refl _)⟩, S'.ne, S'.pn⟩
        exact ⟨e', G', S2, SPost.noEx p⟩
      · subst eb
        rw [hk] at p
        exact p cls o σ' H' G' H2 S' s2 ix
  | nx e' => rw [hr] at p; exact p
  | rt d => rw [hr] at p; exact p
  | ro d => rw [hr] at p; exact p
  | rm d e' => rw [hr] at p; exact p
  | bk e' => rw [hr] at p; exact p
  | ct e' => rw [hr] at p; exact p
  | bad => rw [hr] at p; exact p.elim
end
end DL

namespace DL
open PySem PySem.Spec PyProof.Rows L2
open PySem.Builtin.Int (intBits)

theorem _root_.L2.Room.hu {k : Nat} {A : Around} (h : Room k A) : A.units + 64 < cLine := by have := h.un; omega
theorem CallOk.up {P : Program} {w : World} {K : PySem.W.Frag} {mg : Str → Option Value} {base : Heap} {j k : Nat} {x : Str} {ps : List Str} {F : List D → Res D} (h : CallOk P w K mg base j x ps F) (hjk : j ≤ k) : CallOk P w K mg base k x ps F := by
  obtain ⟨f, fd, a, b, c, d⟩ := h.ok
  exact ⟨f, fd, a, b, c, d.mono hjk⟩
theorem de_globI {X : Cx} {W : WX} {A : Nat → Prop} {x : Str} {i : Int} {pos : Pos} (hg : Gl X x) (hm : ∃ t, X.mg x = some (.int i t)) (hd : (x == ("__debug__" : Str)) = false := by decide) : DE X W A (.Name x pos) (eC (.int i)) := by
  obtain ⟨t, h⟩ := hm
  exact de_glob (v := .int i) hg h ⟨t, rfl⟩ (fun _ => rfl) hd
theorem endW {l : PySem.W.OpenLaw} {k : Nat} {q : Program} {loose : List Str} {XP : (Str → Option Value) → Heap → Prop} {YP : World → Heap → Prop} {d : DefRec} {K : Params → PySem.W.Frag} {x : Str} {F : List D → Res D}
    (hn : l.most = some 63) (hdf : d.params.defaults = []) (hk : k < 60) (hY : ∀ (w : World) (h : Heap), YP w h → (K w.params).In h)
    (FF : ∀ (w : World) (mg : Str → Option Value) (fa : Addr) (h : Heap), (K w.params).In h → h.Ns mainGlobals mg → mg d.name = some (.ref fa) →
      ∃ fd : FuncData, (∀ (s : Shared) (u : Value), BindsTo s fd ⟨[u], []⟩ [(x, u)]) ∧ ∀ base : Heap, (K w.params).In base → base.Ns mainGlobals mg → FnOk l.prog w (K w.params) mg base (L2.CX l.prog w) k fa fd [x] (spD (K w.params) mg 1 F))
    (law : ∀ ns : List Int, ns.length ≤ 63 → (∀ z ∈ ns, intBits z ≤ 1048576) → F [.lst (ns.map D.int)] = .ok (.bl true)) :
    PySem.W.WalkO q loose XP YP l.row.toRowW d [] (fun f vs => PySem.call f vs) := by
  let sp : World → Sp := fun w => fun vs H Q E => vs.length = 1 ∧ ∃ (a : Addr) (ns : List Int), vs = [.ref a] ∧ ns.length ≤ 63 ∧ (∀ z ∈ ns, intBits z ≤ 1048576) ∧ SqL (K w.params) H a (ns.map V.int) ∧ ∀ H', Q (.bl true) H'
  refine L2.walk_ofB (l := l) (n := 63) (k := k) (x := x) (K := K) (CX := fun w => L2.CX l.prog w) (sp := sp) hn (by rw [PySem.sizeLine_eq]; decide) hdf (Room.mono (k := 60) ⟨rfl, by decide, by decide⟩ (by omega)) hY (fun w mg fa h a b c => ?_) (fun w H a ns hl hb _ hS => ⟨rfl, a, ns, rfl, hl, hb, hS, fun _ => rfl⟩) ?_
  · obtain ⟨fd, b1, b2⟩ := FF w mg fa h a b c
    refine ⟨fd, b1, fun base k1 k2 => ?_⟩
    have f := b2 base k1 k2
    refine ⟨fun vs H Q E h => h.1, fun A outer s H args us vs Q E r e bt vv hsp => f.run A outer s H args us vs Q E r e bt vv ?_⟩
    obtain ⟨_, a, ns, rfl, hl, hb, hS, hq⟩ := hsp
    refine ⟨rfl, [.lst (ns.map D.int)], H, Sub.refl H, ⟨_, _, rfl, ⟨a, _, rfl, hS, RepL.of_ints ns⟩, rfl⟩, ?_⟩
    rw [law ns hl hb]
    exact fun H' G' _ v hv => by cases (show v = .bl true from hv); exact hq H'
  · rintro w H s e s' ⟨_, _, _, _, _, _, _, _, _, _, _, _, z⟩
    exact z
end DL

namespace DL
open PySem PySem.Spec PyProof.Rows L2
open PySem.Builtin.Int (intBits)
/-! ### which classes an "except" names -/
theorem Clause.nil {K : PySem.W.Frag} {mg : Str → Option Value} {c : Value} : Clause K mg c (fun _ => none) := fun k b cls h _ => by cases h
theorem Clause.cons {K : PySem.W.Frag} {mg : Str → Option Value} {c : Value} {n : String} {C : Addr} {b : Bool} {f : String → Option Bool} (hm : mg (Str.ofString n) = some (.ref C)) (he : PySem.W.exmOne K (.ref C) c = some b) (t : Clause K mg c f) : Clause K mg c (fun s => if s = n then some b else f s) := fun k b' cls h hc => by
  dsimp only at h
  by_cases hk : k = n
  · subst hk
    rw [if_pos rfl] at h
    cases h
    rw [hm] at hc
    cases hc
    exact he
  · rw [if_neg hk] at h
    exact t k b' cls h hc
theorem exm_two {K : PySem.W.Frag} {A S : Addr} {b : Bool} (h1 : PySem.W.subIn K (.ref S) (.type "BaseException") = some true) (h2 : PySem.W.isClsIn K S = true) (h3 : PySem.W.typeIn K (.ref S) = some (.type "type")) (h4 : PySem.W.subIn K (.ref A) (.ref S) = some b) : PySem.W.exmOne K (.ref A) (.ref S) = some b := by
  have e1 : (PySem.W.subIn K (.ref S) (.type "BaseException") == some true) = true := by rw [h1]; rfl
  have e2 : ((PySem.W.clsIn K S).isSome && PySem.W.typeIn K (.ref S) == some (.type "type")) = true := by
    have h2' : (PySem.W.clsIn K S).isSome = true := h2
    rw [h2', h3]; rfl
  show (if (PySem.W.subIn K (.ref S) (.type "BaseException") == some true) = true then (if ((PySem.W.clsIn K S).isSome && PySem.W.typeIn K (.ref S) == some (.type "type")) = true then PySem.W.subIn K (.ref A) (.ref S) else none) else none) = some b
  rw [if_pos e1, if_pos e2]
  exact h4
/-! ### a module's constant -/
structure ConOk (K : PySem.W.Frag) (mg : Str → Option Value) (x : String) (d : D) : Prop where
  ok : ∃ u v, mg (Str.ofString x) = some u ∧ RelV v u ∧ ∀ G, Rep K G d v
theorem de_con {X : Cx} {W : WX} {A : Nat → Prop} {x : String} {d : D} {pos : Pos} (h : ConOk X.K X.mg x d) (hg : Gl X (Str.ofString x)) (hd : (Str.ofString x == ("__debug__" : Str)) = false := by decide) : DE X W A (.Name (Str.ofString x) pos) (eC d) := by
  obtain ⟨u, v, h1, h2, h3⟩ := h.ok
  exact de_glob hg h1 h2 h3 hd
/-- a value of the written part is the data d -/
structure Con (K : PySem.W.Frag) (d : D) (u : Value) : Prop where
  ok : ∃ v, RelV v u ∧ ∀ G, Rep K G d v
theorem Con.int {K : PySem.W.Frag} {i : Int} {t : Tok} : Con K (.int i) (.int i t) := ⟨.int i, ⟨t, rfl⟩, fun _ => rfl⟩
theorem Con.str {K : PySem.W.Frag} {x : Str} {t : Tok} : Con K (.str x) (.str x t) := ⟨.str x, ⟨t, rfl⟩, fun _ => rfl⟩
def Cons (K : PySem.W.Frag) : List D → List Value → Prop
  | [], us => us = []
  | d :: ds, us => ∃ u r, us = u :: r ∧ Con K d u ∧ Cons K ds r
theorem Cons.rep {K : PySem.W.Frag} : ∀ {ds : List D} {us : List Value}, Cons K ds us → ∃ vs, Vals vs us ∧ ∀ G, RepL K G ds vs
  | [], _, rfl => ⟨[], .nil, fun _ => rfl⟩
  | d :: ds, _, ⟨u, r, rfl, h, t⟩ => by
    obtain ⟨v, h1, h2⟩ := h.ok
    obtain ⟨vs, h3, h4⟩ := Cons.rep t
    exact ⟨v :: vs, .cons h1 h3, fun G => ⟨v, vs, rfl, h2 G, h4 G⟩⟩
theorem Con.tup {K : PySem.W.Frag} {a : Addr} {dd : Option Addr} {us : List Value} {n : Nat} {sl : Array (Option Value)} {ds : List D} (h : K.lookup a = some ⟨.type "tuple", dd, .seq us.toArray n, sl⟩) (c : Cons K ds us) (hn : us.length ≤ 1000) : Con K (.con ds) (.ref a) := by
  obtain ⟨vs, h3, h4⟩ := c.rep
  refine ⟨.ref a, rfl, fun G => ⟨a, vs, rfl, .inr ⟨_, _, n, h, rfl, rfl, ?_, by simpa using h3⟩, h4 G⟩⟩
  rw [PySem.sizeLine_eq]
  simp
  omega
theorem Con.at {K : PySem.W.Frag} {mg : Str → Option Value} {x : String} {d : D} {u : Value} (h : Con K d u) (hm : mg (Str.ofString x) = some u) : ConOk K mg x d := by
  obtain ⟨v, h1, h2⟩ := h.ok
  exact ⟨u, v, hm, h1, h2⟩
end DL

namespace DL
open PySem PySem.Spec PyProof.Rows L2
open PySem.Builtin.Int (intBits)
/-! ### range of three -/
def prog3 (i c : Int) (n : Nat) : List D := (List.range n).map fun k => D.int (i + (k : Nat) * c)
open Classical in
noncomputable def rg3 (i j c : Int) : Res (List D) := if h : ∃ n, RgC i j c n then .ok (prog3 i c (Classical.choose h)) else .bad
theorem rgc_one {i j c : Int} {n m : Nat} (h : RgC i j c n) (k : RgC i j c m) : n = m := by
  have e := h.2.2.2.symm.trans k.2.2.2
  exact Int.ofNat.inj e
theorem rg3_of {i j c : Int} {n : Nat} (h : RgC i j c n) : rg3 i j c = .ok (prog3 i c n) := by
  have hx : ∃ n, RgC i j c n := ⟨n, h⟩
  unfold rg3
  rw [dif_pos hx, rgc_one (Classical.choose_spec hx) h]
theorem rg3_ok {i j c : Int} {ds : List D} (h : rg3 i j c = .ok ds) : ∃ n, RgC i j c n ∧ ds = prog3 i c n := by
  unfold rg3 at h
  by_cases hx : ∃ n, RgC i j c n
  · rw [dif_pos hx] at h
    injection h with h
    exact ⟨_, Classical.choose_spec hx, h.symm⟩
  · rw [dif_neg hx] at h; cases h
theorem rg3_not {i j c : Int} : (∃ ds, rg3 i j c = .ok ds) ∨ rg3 i j c = .bad := by
  unfold rg3
  by_cases hx : ∃ n, RgC i j c n
  · rw [dif_pos hx]; exact .inl ⟨_, rfl⟩
  · rw [dif_neg hx]; exact .inr rfl
theorem walk_prog {K : PySem.W.Frag} {B G : Hp} (i c : Int) (n : Nat) : WalkOf K (Itc i c n) (prog3 i c n) B G where
  go := fun H k h hk => by
    show k < n
    simpa [prog3] using hk
  stop := fun H h => by
    show n ≤ _
    simp [prog3]
  yld := fun H G2 k x H' h g g2 hk y => by
    obtain ⟨e, y⟩ := y
    subst e
    have hk' : k < n := by simpa [prog3] using hk
    exact ⟨.int (i + k * c), G2, by simp [prog3, hk'], Ext.refl g2, y⟩
noncomputable def r3D : D → D → D → Res (List D) := fun x y z => match x, y, z with
  | .int i, .int j, .int c => rg3 i j c
  | _, _, _ => .bad
noncomputable def iRange3 (f g h : DL.Env → Res D) : DL.Env → Res (List D) := fun e => (f e).bind fun x => (g e).bind fun y => (h e).bind fun z => r3D x y z
section
variable {X : Cx} {W : WX} {A : Nat → Prop} {a b c : Expr} {pos : Pos}
theorem di_range3 {tg : Expr} {p : Pos} {f g h : DL.Env → Res D} (hg : Gl X "range") (hm : X.mg "range" = none) (ha : DE X W A a f) (hb : DE X W A b g) (hc : DE X W A c h)
    (he : starEach [a, b, c] X.env = (false, eval a X.env) :: starEach [b, c] X.env := by rfl) (he2 : starEach [b, c] X.env = (false, eval b X.env) :: starEach [c] X.env := by rfl) (he3 : starEach [c] X.env = (false, eval c X.env) :: starEach [] X.env := by rfl) (hpl : (backTo pos (starEach [b, c] X.env)).any (·.1) = false := by rfl) :
    DI X W A tg (.Call (.Name "range" p) [a, b, c] [] pos) (iRange3 f g h) :=
  (pi_range3 hg hm (pa_cons ha (pa_cons hb (pa_cons hc pa_nil he3) he2) he) he hpl).imp fun σ H Q ⟨e, G, E, p⟩ => ⟨e, G, E, p.split.imp fun d H1 G1 x1 p1 v rv => ⟨e, G1, E.ext x1, p1.split.imp fun d2 H2 G2 x2 p2 v2 rv2 => ⟨e, G2, (E.ext x1).ext x2, p2.split.imp fun d3 H3 G3 x3 p3 v3 rv3 => by
    have p4 : PostG X.K X.mg _ H3 G3 (r3D d d2 d3) _ := p3
    unfold r3D at p4
    cases d with
    | int i =>
      cases d2 with
      | int j =>
        cases d3 with
        | int k =>
          cases (show v = .int i from rv); cases (show v2 = .int j from rv2); cases (show v3 = .int k from rv3)
          dsimp only at p4
          rcases @rg3_not i j k with ⟨ds, h⟩ | h
          · obtain ⟨n, hn, hd⟩ := rg3_ok h
            subst hd
            rw [h] at p4
            exact ⟨i, j, k, n, rfl, hn, p4.here x3.gh _ (walk_prog i k n)⟩
          · rw [h] at p4; exact p4.elim
        | _ => exact (show False from p4).elim
      | _ => exact (show False from p4).elim
    | _ => exact (show False from p4).elim⟩⟩⟩
/-- x, y = a, b with no tuple made -/
def sPar (al : List Nat) (i j : Nat) (fs : DL.Env → Res (List D)) : DL.Env → Out := sE al fs fun ds e => match ds with
  | [x, y] => .nx ((e.set i (some (x, false))).set j (some (y, false)))
  | _ => .bad
theorem ds_par {W : WX} {H0 : Bas} {G0 : Hp} {al : List Nat} {x y : Str} {i j : Nat} {px py pt pt2 : Pos} {kt k2 : Nat} {fs : DL.Env → Res (List D)} (hc : X.calm = true) (hN : X.N.Nodup) (hi : X.N[i]? = some x) (hj : X.N[j]? = some y) (hij : i ≠ j) (hx : X.env.scope.names.lookup x = some .local) (hy : X.env.scope.names.lookup y = some .local) (ha : DA X W (fun i => i ∈ al) [a, b] fs)
    (hw : swappedStores [.Tuple [.Name x px, .Name y py] kt pt] (.Tuple [a, b] k2 pt2) X.env = pure (some [x, y])) : DS X W H0 G0 (.Assign [.Tuple [.Name x px, .Name y py] kt pt] (.Tuple [a, b] k2 pt2) pos) (sPar al i j fs) := by
  refine (ps_par hc hN hi hj hij hx hy ha hw).lk fun Z σ H hq => (sE_step hq).imp fun H ⟨e, G, E, p⟩ => ?_
  refine ⟨e, G, E, p.imp fun ds H' G' xx ⟨S, q⟩ vs r => ?_⟩
  match ds, q, r with
  | [d1, d2], q, r =>
    obtain ⟨v1, r1, e1, q1, v2, r2, e2, q2, q3⟩ := r
    subst e1 e2
    cases (show r2 = [] from q3)
    exact ⟨v1, v2, rfl, q _ H' G' ((S.set i q1).set j q2)⟩
  | [], q, _ => exact (show False from q).elim
  | [_], q, _ => exact (show False from q).elim
  | _ :: _ :: _ :: _, q, _ => exact (show False from q).elim
/-! ### zip of two -/
def zipD : List D → List D → List D := fun xs ys => (xs.zip ys).map fun p => .tup [p.1, p.2]
end
end DL

namespace DL
open PySem PySem.Spec PyProof.Rows L2
open PySem.Builtin.Int (intBits)
/-! ### str of truth values and numbers -/
theorem call_str_bool {X : Cx} : CallR X (.type "str") fun xs H Q => ∃ b, xs = [V.bl b] ∧ Q (.str (if b = true then "True" else "False")) H := by
  rintro pins s σ H xs us Q I r ⟨b, rfl, q⟩
  obtain ⟨u, rfl, hu⟩ := L2.vals1 r
  cases (show u = Value.bool b from hu)
  exact PySem.P.str_of_bool ⟨V.str (if b = true then "True" else "False"), H, I.tok (s.toks + 1), ⟨s.toks, rfl⟩, q⟩
def dStr : D → Res D
  | .bl b => .ok (.str (if b = true then "True" else "False"))
  | _ => .bad
theorem c1_str {X : Cx} {W : WX} : Call1 X W (.type "str") dStr := by
  refine ⟨_, call_str_bool, fun σ H G x dx Q sg rx p => ?_⟩
  cases dx with
  | bl b => cases (show x = .bl b from rx); exact ⟨b, rfl, p.val sg rfl⟩
  | _ => exact (show False from p).elim
/-! ### except X as e -/
theorem StOk.clear {K : PySem.W.Frag} {H0 : Bas} {G0 H G : Hp} {σ : L2.St} {e : DL.Env} (S : StOk K H0 G0 σ e H G) (i : Nat) : StOk K H0 G0 (σ.set i none) (e.set i none) H G := by
  have get : ∀ (j : Nat) (z : D × Bool), (e.set i none)[j]? = some (some z) → i ≠ j ∧ e[j]? = some (some z) := fun j z h => by
    by_cases hj : i = j
    · subst hj
      rw [List.getElem?_set] at h
      split at h
      · split at h <;> cases h
      · rename_i k; exact absurd rfl k
    · rw [List.getElem?_set_ne hj] at h
      exact ⟨hj, h⟩
  refine ⟨S.ext, by rw [List.length_set, List.length_set]; exact S.len, fun j d h => ?_, fun j d h => ?_, fun j k d d' a h1 h2 h3 h4 => ?_, fun j a d hp h => ?_⟩
  · obtain ⟨hj, h'⟩ := get j _ h
    rw [List.getElem?_set_ne hj]
    exact S.sh j d h'
  · obtain ⟨hj, h'⟩ := get j _ h
    rw [List.getElem?_set_ne hj]
    exact S.ow j d h'
  · obtain ⟨hj, h1'⟩ := get j _ h1
    obtain ⟨hk, h2'⟩ := get k _ h2
    rw [List.getElem?_set_ne hj] at h3
    rw [List.getElem?_set_ne hk] at h4
    exact S.ne j k d d' a h1' h2' h3 h4
  · obtain ⟨hj, h'⟩ := get j _ h
    rw [List.getElem?_set_ne hj]
    exact S.pn j a d hp h'
/-- the error's name is gone behind the suite; nothing is raised out of it -/
def clrN (i : Nat) : Out → Out
  | .nx e => .nx (e.set i none)
  | .bk e => .bk (e.set i none)
  | .ct e => .ct (e.set i none)
  | .rt d => .rt d
  | .ro d => .ro d
  | .rm d e => .rm d (e.set i none)
  | _ => .bad
open Classical in
/-- what is so at every address -/
noncomputable def unif (g : Addr → Out) : Out := if h : ∃ r, ∀ a, g a = r then Classical.choose h else .bad
theorem unif_of {g : Addr → Out} {r : Out} (h : ∀ a, g a = r) : unif g = r := by
  have hx : ∃ r, ∀ a, g a = r := ⟨r, h⟩
  unfold unif
  rw [dif_pos hx]
  exact (Classical.choose_spec hx 0).symm.trans (h 0)
theorem unif_at {g : Addr → Out} (h : unif g ≠ .bad) (a : Addr) : unif g = g a := by
  unfold unif at h ⊢
  by_cases hx : ∃ r, ∀ a, g a = r
  · rw [dif_pos hx]; exact (Classical.choose_spec hx a).symm
  · rw [dif_neg hx] at h; exact absurd rfl h
noncomputable def sTryAs (i : Nat) (h : String → Option Bool) (fb : DL.Env → Out) (fs : Addr → String → DL.Env → Out) : DL.Env → Out := fun e => match fb e with
  | .ex c fs' e' => match h c with
    | some true => if fs' = [] then unif fun a => clrN i (fs a c (e'.set i (some (.obj (.ref a), false)))) else .bad
    | some false => .ex c fs' e'
    | none => .bad
  | r => r
section
variable {X : Cx} {W : WX} {A : Nat → Prop} {a b : Expr} {rest : List Expr} {pos p p1 p2 : Pos} {H0 : Bas} {G0 : Hp}
theorem ds_tryAs {i : Nat} {x n : Str} {c : Value} {body suite : List Stmt} {b₀ : Stmt} {np pos' : Pos} {h : String → Option Bool} {fb : DL.Env → Out} {fs : Addr → String → DL.Env → Out} (hs : X.stack = X.env :: X.outer) (hf : X.env.frame = some X.env.locals) (hN : X.N.Nodup) (hi : X.N[i]? = some n) (hln : X.env.kindOf n = some .local) (hc : Names X x c) (tk : Takes X W)
    (hh : Clause X.K X.mg c h)
    (hb : ∀ (W' : WX) (pn : List (Addr × Obj)) (xe : Value → Shared → Prop), Takes (X.tr pn xe) W' → PassesOwn (model X.prog X.w) X.A X.env xe → DSs (X.tr pn xe) W' H0 G0 body fb)
    (hsu : ∀ (a : Addr) (oe : Obj) (cls : Value) (pn : List (Addr × Obj)) (k : String), Zc cls none oe → (∃ vs, oe.data = .fields vs) → X.mg (Str.ofString k) = some cls → DSs (X.suite a ((a, oe) :: pn)) WF H0 G0 (b₀ :: suite) (fs a k)) :
    DS X W H0 G0 (.Try body [.ExceptHandler (some (.Name x np)) (some n) (b₀ :: suite) pos'] [] [] pos) (sTryAs i h fb fs) := by
  refine (ps_try_as (tb := fun W' => tS X.K X.mg W' H0 G0 fb) (Wout := W) (i := i)
    (ts := fun a cls d Z σ H => ∃ k, X.mg (Str.ofString k) = some cls ∧ d = none ∧ tS X.K X.mg WF H0 G0 (fs a k) Z σ H) hs hf hN hi hln hc tk hb (fun a oe cls d pn hz hd => ?_)).imp fun Z σ H ⟨e, G, S, q⟩ => ⟨e, G, S, ?_⟩
  · refine ⟨fun pins s σ H Z I ⟨k, hk, hn, t⟩ => ?_⟩
    subst hn
    exact (hsu a oe cls pn k hz hd hk).run pins s σ H Z I t
  · unfold sTryAs at q
    cases hr : fb e with
    | ex k fs' e' =>
      rw [hr] at q
      dsimp only at q
      refine fun cls o σ' H' G' H2 S' s2 ix => ?_
      cases hk : h k with
      | none => rw [hk] at q; exact q.elim
      | some b =>
        refine ⟨b, hh k b cls hk ix.1, fun eb a _ => ?_, fun eb => ?_⟩
        · subst eb
          rw [hk] at q
          dsimp only at q
          by_cases hfs : fs' = []
          · rw [if_pos hfs] at q
            have ho : o = none := by
              cases o with
              | none => rfl
              | some d => exact absurd hfs ix.2.1
            subst ho
            have S2 : StOk X.K H0 G0 σ' e' H2 G' := ⟨⟨S'.ext.hh.trans s2, S'.ext.gg, S'.ext.gh.trans s2, S'.ext.new⟩, S'.len, S'.sh, fun i d h => let ⟨a, q1, q2, q3, q4⟩ := S'.ow i d h; ⟨a, q1, q2, q3, q4.mono s2 (Sub.refl _)⟩, S'.ne, S'.pn⟩
            have S3 := S2.set i (d := .obj (.ref a)) (v := .ref a) rfl
            refine ⟨k, ix.1, rfl, _, G', S3, ?_⟩
            have nb : unif (fun a => clrN i (fs a k (e'.set i (some (.obj (.ref a), false))))) ≠ .bad := fun z => by rw [z] at q; exact q
            rw [unif_at nb a] at q
            cases hq : fs a k (e'.set i (some (.obj (.ref a), false))) with
            | nx e2 => rw [hq] at q; exact fun σ5 H5 G5 S5 => q _ H5 G5 (S5.clear i)
            | bk e2 => rw [hq] at q; exact fun σ5 H5 G5 S5 => q _ H5 G5 (S5.clear i)
            | ct e2 => rw [hq] at q; exact fun σ5 H5 G5 S5 => q _ H5 G5 (S5.clear i)
            | rt d => rw [hq] at q; exact q
            | ro d => rw [hq] at q; exact q
            | rm d e2 => rw [hq] at q; exact fun v σ5 H5 G5 S5 r5 => q v _ H5 G5 (S5.clear i) r5
            | ex c' f' e2 => rw [hq] at q; exact q.elim
            | bad => rw [hq] at q; exact q.elim
          · rw [if_neg hfs] at q; exact q.elim
        · subst eb
          rw [hk] at q
          exact q cls o σ' H' G' H2 S' s2 ix
    | nx e' => rw [hr] at q; exact q
    | rt d => rw [hr] at q; exact q
    | ro d => rw [hr] at q; exact q
    | rm d e' => rw [hr] at q; exact q
    | bk e' => rw [hr] at q; exact q
    | ct e' => rw [hr] at q; exact q
    | bad => rw [hr] at q; exact q.elim
/-! ### isinstance of the caught error -/
def IsTab (K : PySem.W.Frag) (mg : Str → Option Value) (cv : Value) (t : String → Option Bool) : Prop := ∀ c b cls, t c = some b → mg (Str.ofString c) = some cls → ∃ C, cls = .ref C ∧ ExcC K C ∧ PySem.W.kitOne K (.ref C) cv = some b
theorem IsTab.nil {K : PySem.W.Frag} {mg : Str → Option Value} {cv : Value} : IsTab K mg cv (fun _ => none) := fun c b cls h _ => by cases h
theorem IsTab.cons {K : PySem.W.Frag} {mg : Str → Option Value} {cv : Value} {n : String} {C : Addr} {b : Bool} {f : String → Option Bool} (hm : mg (Str.ofString n) = some (.ref C)) (hc : ExcC K C) (he : PySem.W.kitOne K (.ref C) cv = some b) (t : IsTab K mg cv f) : IsTab K mg cv (fun s => if s = n then some b else f s) := fun k b' cls h hcl => by
  dsimp only at h
  by_cases hk : k = n
  · subst hk
    rw [if_pos rfl] at h
    cases h
    rw [hm] at hcl
    cases hcl
    exact ⟨C, rfl, hc, he⟩
  · rw [if_neg hk] at h
    exact t k b' cls h hcl
theorem kit_self {K : PySem.W.Frag} {v : Value} (h : (v == v) = true) : PySem.W.kitOne K v v = some true := by
  unfold PySem.W.kitOne
  rw [if_pos h]
theorem kit_own {K : PySem.W.Frag} {A S : Addr} {b : Bool} (hne : (Value.ref A == Value.ref S) = true → b = true) (h2 : PySem.W.isClsIn K S = true) (h3 : PySem.W.typeIn K (.ref S) = some (.type "type")) (h4 : PySem.W.subIn K (.ref A) (.ref S) = some b) : PySem.W.kitOne K (.ref A) (.ref S) = some b := by
  unfold PySem.W.kitOne
  by_cases h : (Value.ref A == Value.ref S) = true
  · rw [if_pos h, hne h]
  · rw [if_neg h]
    have e2 : ((PySem.W.clsIn K S).isSome && PySem.W.typeIn K (.ref S) == some (.type "type")) = true := by
      have h2' : (PySem.W.clsIn K S).isSome = true := h2
      rw [h2', h3]; rfl
    show (if ((PySem.W.clsIn K S).isSome && PySem.W.typeIn K (.ref S) == some (.type "type")) = true then PySem.W.subIn K (.ref A) (.ref S) else none) = some b
    rw [if_pos e2]
    exact h4
def eIsE (i : Nat) (a : Addr) (o : Option Bool) : DL.Env → Res D := fun e => match e[i]? with
  | some (some (.obj (.ref a'), false)) => if a' = a then (match o with | some b => .ok (.bl b) | none => .bad) else .bad
  | _ => .bad
theorem de_isE {i : Nat} {x n y : Str} {k : String} {ad : Addr} {oe : Obj} {cls cv : Value} {v : V} {pn : List (Addr × Obj)} {t : String → Option Bool} {p3 : Pos} (ht : IsTab X.K X.mg cv t) (hm : X.mg (Str.ofString k) = some cls) (hz : Zc cls none oe) (hf : ∃ vs, oe.data = .fields vs)
    (hN : X.N[i]? = some n) (hv : Vis X.env.scope n) (hg : Gl X x) (hmx : X.mg x = none) (hvx : bootBuiltins x = some (.builtin "isinstance")) (hy : PE (X.suite ad ((ad, oe) :: pn)) (.Name y p3) (tC v)) (hcv : ∀ u, RelV v u → u = cv)
    (hnx : x ≠ "__name__" := by decide) (hd : (n == ("__debug__" : Str)) = false := by decide) (hcd : (n == ("__classdict__" : Str)) = false := by decide) (hdb : (x == ("__debug__" : Str)) = false := by decide)
    (he : starEach (.Name n p2 :: [.Name y p3]) X.env = (false, eval (.Name n p2) X.env) :: starEach [.Name y p3] X.env := by rfl) (he2 : starEach (.Name y p3 :: []) X.env = (false, eval (.Name y p3) X.env) :: starEach [] X.env := by rfl) (hpl : (backTo pos (starEach [.Name y p3] X.env)).any (·.1) = false := by rfl) :
    DE (X.suite ad ((ad, oe) :: pn)) W A (.Call (.Name x p) [.Name n p2, .Name y p3] [] pos) (eIsE i ad (t k)) := by
  cases hk : t k with
  | none => exact ⟨fun pins s σ H Q I ⟨e, G, E, q⟩ => by
      unfold eIsE at q
      revert q
      split
      · split
        · exact fun q => q.elim
        · exact fun q => q.elim
      · exact fun q => q.elim⟩
  | some b =>
    obtain ⟨C, hC, hE, hK⟩ := ht k b cls hk hm
    subst hC
    refine (pe_callB (X := X.suite ad ((ad, oe) :: pn)) (call_isE hE hz hf) hg hmx hvx (pa_cons (de_vs (W := W) (A := A) (i := i) hN hv hd hcd) (pa_cons hy pa_nil he2) he) hnx hdb he hpl).imp fun σ H Q ⟨e, G, E, q⟩ => ?_
    refine ⟨e, G, E, ?_⟩
    unfold eIsE at q
    unfold eVarS
    revert q
    cases hi : e[i]? with
    | none => exact fun q => q.elim
    | some sl =>
      cases sl with
      | none => exact fun q => q.elim
      | some z =>
        obtain ⟨d, o⟩ := z
        cases o with
        | true => intro q; cases d <;> try exact q.elim
                  rename_i u; cases u <;> exact q.elim
        | false =>
          cases d with
          | obj u =>
            cases u with
            | ref a' =>
              intro q
              dsimp only at q ⊢
              by_cases ha : a' = ad
              · rw [if_pos ha] at q
                subst ha
                intro H' G' x1 v1 r1
                cases (show v1 = .ref a' from r1)
                exact ⟨v, cv, b, rfl, hcv, hK, (q.ext x1).val x1.gh rfl⟩
              · rw [if_neg ha] at q; exact q.elim
            | _ => exact fun q => q.elim
          | _ => exact fun q => q.elim
end
end DL

namespace DL
open PySem PySem.Spec PyProof.Rows L2
open PySem.Builtin.Int (intBits)
/-! ### dicts: the data -/
open Classical in
/-- what stands at a key -/
noncomputable def dFind (kvs : List (D × D)) (k : D) : Option D := (kvs.find? fun p => decide (p.1 = k)).map (·.2)
open Classical in
/-- a key set -/
noncomputable def dSet (kvs : List (D × D)) (k d : D) : List (D × D) := if (kvs.any fun p => decide (p.1 = k)) = true then kvs.map (fun p => if p.1 = k then (p.1, d) else p) else kvs ++ [(k, d)]
theorem keyD_inj {a b : Key} (h : keyD a = keyD b) : a = b := by
  cases a <;> cases b <;> simp [keyD] at h <;> rw [h]
theorem keyT_inj : ∀ {a b : List Key}, keyT a = keyT b → a = b := by
  intro a b h
  unfold keyT at h
  injection h with h
  induction a generalizing b with
  | nil => cases b with
    | nil => rfl
    | cons _ _ => simp at h
  | cons x a ih => cases b with
    | nil => simp at h
    | cons y b =>
      simp only [List.map_cons, List.cons.injEq] at h
      rw [keyD_inj h.1, ih h.2]
section
variable {κ : Type} [DecidableEq κ] {f : κ → D} {K : PySem.W.Frag} {G : Hp}
theorem repv_find (hf : ∀ a b, f a = f b → a = b) : ∀ {kvs : List (D × D)} {ps : List (κ × V)}, kvs.map (·.1) = ps.map (fun p => f p.1) → RepV K G kvs (ps.map (·.2)) → ∀ k : κ,
    (dFind kvs (f k) = none ∧ valV ps k = none) ∨ ∃ d v, dFind kvs (f k) = some d ∧ valV ps k = some v ∧ Rep K G d v
  | [], [], _, _, k => .inl ⟨rfl, rfl⟩
  | [], _ :: _, h, _, _ => by simp at h
  | _ :: _, [], h, _, _ => by simp at h
  | (k0, d0) :: kvs, (c0, v0) :: ps, h, r, k => by
    simp only [List.map_cons, List.cons.injEq] at h
    obtain ⟨v, r', e, r1, r2⟩ := r
    simp only [List.map_cons, List.cons.injEq] at e
    obtain ⟨e1, e2⟩ := e
    subst e1 e2
    have ih := repv_find hf h.2 r2 k
    have hk0 : k0 = f c0 := h.1
    subst hk0
    by_cases hk : c0 = k
    · subst hk
      refine .inr ⟨d0, v0, ?_, ?_, r1⟩
      · simp [dFind]
      · simp [valV]
    · have hk' : ¬ f c0 = f k := fun z => hk (hf _ _ z)
      have e1 : dFind ((f c0, d0) :: kvs) (f k) = dFind kvs (f k) := by simp [dFind, hk']
      have e2 : valV ((c0, v0) :: ps) k = valV ps k := by simp [valV, hk]
      rw [e1, e2]
      exact ih
theorem any_same (hf : ∀ a b, f a = f b → a = b) : ∀ {kvs : List (D × D)} {ps : List (κ × V)}, kvs.map (·.1) = ps.map (fun p => f p.1) → ∀ k : κ,
    (∃ p ∈ kvs, p.1 = f k) ↔ ∃ p ∈ ps, p.1 = k
  | [], [], _, k => by simp
  | [], _ :: _, h, _ => by simp at h
  | _ :: _, [], h, _ => by simp at h
  | (k0, d0) :: kvs, (c0, v0) :: ps, h, k => by
    simp only [List.map_cons, List.cons.injEq] at h
    have ih := any_same hf h.2 k
    have hk0 : k0 = f c0 := h.1
    subst hk0
    simp only [List.mem_cons, exists_eq_or_imp, ih]
    constructor
    · rintro (z | z)
      · exact .inl (hf _ _ z)
      · exact .inr z
    · rintro (z | z)
      · exact .inl (by rw [z])
      · exact .inr z
open Classical in
theorem repv_map (hf : ∀ a b, f a = f b → a = b) {d : D} {v : V} (rd : Rep K G d v) (k : κ) : ∀ {kvs : List (D × D)} {ps : List (κ × V)}, kvs.map (·.1) = ps.map (fun p => f p.1) → RepV K G kvs (ps.map (·.2)) →
    (kvs.map (fun p => if p.1 = f k then (p.1, d) else p)).map (·.1) = (ps.map fun kv => if kv.1 = k then (kv.1, v) else kv).map (fun p => f p.1) ∧ RepV K G (kvs.map (fun p => if p.1 = f k then (p.1, d) else p)) ((ps.map fun kv => if kv.1 = k then (kv.1, v) else kv).map (·.2))
  | [], [], _, _ => ⟨rfl, rfl⟩
  | [], _ :: _, h, _ => by simp at h
  | _ :: _, [], h, _ => by simp at h
  | (k0, d0) :: kvs, (c0, v0) :: ps, h, r => by
    simp only [List.map_cons, List.cons.injEq] at h
    obtain ⟨v1, r', e, r1, r2⟩ := r
    simp only [List.map_cons, List.cons.injEq] at e
    obtain ⟨e1, e2⟩ := e
    subst e1 e2
    obtain ⟨a, b⟩ := repv_map hf rd k h.2 r2
    have hk0 : k0 = f c0 := h.1
    subst hk0
    by_cases hk : c0 = k
    · subst hk
      simp only [List.map_cons, if_true]
      exact ⟨by rw [← a], v, _, rfl, rd, b⟩
    · have hk' : ¬ f c0 = f k := fun z => hk (hf _ _ z)
      simp only [List.map_cons, if_neg hk, if_neg hk']
      exact ⟨by rw [← a], v0, _, rfl, r1, b⟩
theorem repv_app : ∀ {kvs : List (D × D)} {vs : List V} {k d : D} {v : V}, RepV K G kvs vs → Rep K G d v → RepV K G (kvs ++ [(k, d)]) (vs ++ [v])
  | [], _, k, d, v, rfl, h => ⟨v, [], rfl, h, rfl⟩
  | (_, d0) :: kvs, _, k, d, v, ⟨v0, r', e, r1, r2⟩, h => ⟨v0, r' ++ [v], by rw [e]; rfl, r1, repv_app r2 h⟩
/-- a key set: data and values stay together -/
theorem repv_set (hf : ∀ a b, f a = f b → a = b) {kvs : List (D × D)} {ps : List (κ × V)} (h : kvs.map (·.1) = ps.map (fun p => f p.1)) (r : RepV K G kvs (ps.map (·.2))) {d : D} {v : V} (rd : Rep K G d v) (k : κ) :
    (dSet kvs (f k) d).map (·.1) = (putK ps k v).map (fun p => f p.1) ∧ RepV K G (dSet kvs (f k) d) ((putK ps k v).map (·.2)) := by
  have ha := any_same hf h k
  unfold dSet putK
  by_cases hx : ∃ p ∈ ps, p.1 = k
  · rw [if_pos (by simpa using ha.mpr hx), if_pos (by simpa using hx)]
    exact repv_map hf rd k h r
  · have hy : ¬ ∃ p ∈ kvs, p.1 = f k := fun z => hx (ha.mp z)
    rw [if_neg (by simpa using hy), if_neg (by simpa using hx)]
    refine ⟨by simp [h], ?_⟩
    rw [List.map_append]
    exact repv_app r rd
end
end DL

namespace DL
open PySem PySem.Spec PyProof.Rows L2
open PySem.Builtin.Int (intBits)
/-! ### dicts: the rules -/
def eDNew (t : Bool) : DL.Env → Res D := fun _ => .ok (.dct t [])
section
variable {X : Cx} {W : WX} {A : Nat → Prop} {a b : Expr} {rest : List Expr} {pos p p1 p2 apos cpos : Pos} {H0 : Bas} {G0 : Hp}
theorem df_dnewK : DF X W A (.Dict [] [] pos) (eDNew false) :=
  pe_dnewK.imp fun σ H Q ⟨e, G, E, q⟩ p hp => q (upd H p (.dK [])) G ⟨Sub.upd hp, Sub.refl _, E.sub.trans (Sub.upd hp), fun b z => .inl z⟩ p hp (E.sub.free hp) (.inl ⟨rfl, [], upd_same, rfl, rfl⟩)
theorem df_dnewT : DF X W A (.Dict [] [] pos) (eDNew true) :=
  pe_dnewT.imp fun σ H Q ⟨e, G, E, q⟩ p hp => q (upd H p (.dT [])) G ⟨Sub.upd hp, Sub.refl _, E.sub.trans (Sub.upd hp), fun b z => .inl z⟩ p hp (E.sub.free hp) (.inr ⟨rfl, [], upd_same, rfl, rfl⟩)
/-- a key that fits the dict's kind -/
def D.isKey : D → Bool
  | .int _ => true
  | .str _ => true
  | _ => false
def D.keyOk (t : Bool) : D → Bool
  | .tup ds => t && ds.all D.isKey
  | d => !t && d.isKey
theorem key_of {d : D} (h : d.isKey = true) : ∃ k : Key, d = keyD k := by
  cases d with
  | int i => exact ⟨.inl i, rfl⟩
  | str x => exact ⟨.inr x, rfl⟩
  | _ => cases h
theorem keys_of : ∀ {ds : List D}, ds.all D.isKey = true → ∃ ks : List Key, ds = ks.map keyD
  | [], _ => ⟨[], rfl⟩
  | d :: ds, h => by
    simp only [List.all_cons, Bool.and_eq_true] at h
    obtain ⟨k, e⟩ := key_of h.1
    obtain ⟨ks, e2⟩ := keys_of h.2
    exact ⟨k :: ks, by rw [e, e2]; rfl⟩
theorem rep_key {K : PySem.W.Frag} {G : Hp} {k : Key} {v : V} (r : Rep K G (keyD k) v) : v = kV k := by
  cases k with
  | inl i => exact r
  | inr x => exact r
theorem rep_keys {K : PySem.W.Frag} {G : Hp} : ∀ {ks : List Key} {vs : List V}, RepL K G (ks.map keyD) vs → vs = ks.map kV
  | [], _, h => h
  | k :: ks, _, ⟨v, r, e, h1, h2⟩ => by rw [e, rep_key h1, rep_keys h2]; rfl
/-- what a dict tells at a key -/
theorem dget_rep {K : PySem.W.Frag} {H G : Hp} {t : Bool} {kvs : List (D × D)} {a : Addr} {k : D} {y : V} (sg : Sub G H) (r : RepC K H G (.dct t kvs) (.ref a)) (hk : D.keyOk t k = true) (ry : Rep K G k y) :
    ∃ o, DGet H a y o ∧ ((dFind kvs k = none ∧ o = none) ∨ ∃ d v, dFind kvs k = some d ∧ o = some v ∧ Rep K G d v) := by
  obtain ⟨a', ea, h⟩ := r
  cases ea
  rcases h with ⟨t0, ps, s, hkeys, rv⟩ | ⟨t0, ps, s, hkeys, rv⟩
  · subst t0
    have hk' : k.isKey = true := by
      cases k with
      | tup ds => simp [D.keyOk] at hk
      | _ => simpa [D.keyOk] using hk
    obtain ⟨κ, e⟩ := key_of hk'
    subst e
    refine ⟨valV ps κ, .inl ⟨ps, κ, s, rep_key ry, rfl⟩, ?_⟩
    exact repv_find (fun _ _ => keyD_inj) hkeys rv κ
  · subst t0
    cases k with
    | tup ds =>
      have hk' : ds.all D.isKey = true := by simpa [D.keyOk] using hk
      obtain ⟨ks, e⟩ := keys_of hk'
      subst e
      obtain ⟨b, vs, e1, e2, e3⟩ := ry
      have := rep_keys e3
      subst this
      refine ⟨valV ps ks, .inr ⟨ps, ks, b, s, e1, sg _ _ e2, rfl⟩, ?_⟩
      exact repv_find (f := keyT) (fun _ _ => keyT_inj) hkeys rv ks
    | _ => simp [D.keyOk] at hk
/-- d[k] -/
noncomputable def dAt : D → D → Res D := fun d k => match d with
  | .dct t kvs => if D.keyOk t k = true then (match dFind kvs k with | some x => .ok x | none => .bad) else .bad
  | _ => .bad
theorem de_dix {fa fb : DL.Env → Res D} (hu : X.A.units + 1 < cLine) (ha : DR X W A a fa) (hb : DE X W A b fb) (hs : NoSl b) : DE X W A (.Subscript a b pos) (eOp dAt fa fb) :=
  (pe_dget hu ha hb hs).imp fun σ H Q ⟨e, G, E, q⟩ => ⟨e, G, E, q.split.imp fun d H1 G1 x1 q1 v rv => ⟨e, G1, E.ext x1, q1.split.imp fun k H2 G2 x2 q2 y ry => by
    have rv := rv.mono x2.hh x2.gg
    cases d with
    | dct t kvs =>
      dsimp only [dAt] at q2
      by_cases hk : D.keyOk t k = true
      · rw [if_pos hk] at q2
        obtain ⟨a', ea, _⟩ := id rv
        subst ea
        obtain ⟨o, h1, h2⟩ := dget_rep x2.gh rv hk ry
        rcases h2 with ⟨e1, e2⟩ | ⟨d, w, e1, e2, e3⟩
        · rw [e1] at q2; exact q2.elim
        · rw [e1] at q2
          subst e2
          exact ⟨a', w, rfl, h1, q2.here x2.gh w e3⟩
      · rw [if_neg hk] at q2; exact q2.elim
    | _ => exact (show False from q2).elim⟩⟩
/-- d.get(k, x) -/
noncomputable def dGet2 : D → D → D → Res D := fun d k x => match d with
  | .dct t kvs => if D.keyOk t k = true then .ok ((dFind kvs k).getD x) else .bad
  | _ => .bad
noncomputable def eGet2 (fa fb fc : DL.Env → Res D) : DL.Env → Res D := fun e => (fa e).bind fun d => match d with
  | .dct t kvs => (fb e).bind fun k => (fc e).bind fun x => dGet2 (.dct t kvs) k x
  | _ => .bad
theorem de_get2 {c : Expr} {fa fb fc : DL.Env → Res D} (hu : X.A.units + 1 < cLine) (ha : DR X W A a fa) (hb : DE X W A b fb) (hc : DE X W A c fc) (m : M2 X a "get" apos b c cpos) : DE X W A (.Call (.Attribute a "get" apos) [b, c] [] cpos) (eGet2 fa fb fc) :=
  (pe_dget2 hu ha hb hc m).imp fun σ H Q ⟨e, G, E, q⟩ => ⟨e, G, E, q.split.imp fun d H1 G1 x1 q1 v rv => by
    cases d with
    | dct t kvs =>
      dsimp only at q1
      obtain ⟨a', ea, hd⟩ := id rv
      subst ea
      refine ⟨a', rfl, ?_, e, G1, E.ext x1, q1.split.imp fun k H2 G2 x2 q2 y ry => ⟨e, G2, (E.ext x1).ext x2, q2.split.imp fun x H3 G3 x3 q3 z rz => ?_⟩⟩
      · rcases hd with ⟨_, ps, s, _⟩ | ⟨_, ps, s, _⟩
        · exact .inl ⟨ps, s⟩
        · exact .inr ⟨ps, s⟩
      · have rv := (rv.mono x2.hh x2.gg).mono x3.hh x3.gg
        dsimp only [dGet2] at q3
        by_cases hk : D.keyOk t k = true
        · rw [if_pos hk] at q3
          obtain ⟨o, h1, h2⟩ := dget_rep x3.gh rv hk (ry.mono x3.gg)
          rcases h2 with ⟨e1, e2⟩ | ⟨d, w, e1, e2, e3⟩
          · rw [e1] at q3
            subst e2
            exact ⟨none, h1, q3.here x3.gh z rz⟩
          · rw [e1] at q3
            subst e2
            exact ⟨some w, h1, q3.here x3.gh w e3⟩
        · rw [if_neg hk] at q3; exact q3.elim
    | _ => exact (show False from q1).elim⟩
end
end DL

namespace DL
open PySem PySem.Spec PyProof.Rows L2
open PySem.Builtin.Int (intBits)
theorem _root_.L2.Room.hu1 {k : Nat} {A : Around} (h : Room k A) : A.units + 1 < cLine := by have := h.un; omega
/-- the dict that the name i holds, to be changed -/
def ownD (i : Nat) (e : DL.Env) (k : Bool → List (D × D) → Out) : Out := match e[i]? with
  | some (some (.dct t kvs, true)) => k t kvs
  | _ => .bad
/-- x[k] = v -/
noncomputable def sPutD (al : List Nat) (i : Nat) (fk fv : DL.Env → Res D) : DL.Env → Out := fun e => ownD i (fz al e) fun t kvs => sE al (fun e => (fv e).bind fun v => (fk e).bind fun k => .ok (k, v)) (fun kv e' =>
  if D.keyOk t kv.1 = true ∧ kvs.length < sizeLine then .nx (e'.set i (some (.dct t (dSet kvs kv.1 kv.2), true))) else .bad) e
section
variable {X : Cx} {W : WX} {H0 : Bas} {G0 : Hp} {al : List Nat} {pos p1 p2 : Pos}
theorem ownD_inv {i : Nat} {e : DL.Env} {k : Bool → List (D × D) → Out} {Z : Ends} {K : PySem.W.Frag} {mg : Str → Option Value} (p : SPost K mg W H0 G0 (ownD i e k) Z) : ∃ t kvs, e[i]? = some (some (.dct t kvs, true)) ∧ SPost K mg W H0 G0 (k t kvs) Z := by
  unfold ownD at p
  split at p
  · rename_i t kvs h; exact ⟨t, kvs, h, p⟩
  · exact p.elim
theorem ds_putD {i : Nat} {x : Str} {ik ev : Expr} {fk fv : DL.Env → Res D} (hu : X.A.units + 1 < cLine) (hN : X.N[i]? = some x) (hv : Vis X.env.scope x) (hk : DE X W (fun i => i ∈ al) ik fk) (he : DE X W (fun i => i ∈ al) ev fv)
    (hd : (x == ("__debug__" : Str)) = false := by decide) (hcd : (x == ("__classdict__" : Str)) = false := by decide)
    (hs : swapsWith ev (some (.Subscript (.Name x p1) ik p2)) pos.line X.env = pure false := by rfl) :
    DS X W H0 G0 (.Assign [.Subscript (.Name x p1) ik p2] ev pos) (sPutD al i fk fv) := by
  refine (ps_dput hu (pe_var hN hv hd hcd) hk he hs).lk fun Z σ H ⟨e, G, S, p⟩ => (S.exp al).imp fun H ⟨G1, GA, S0, E, nxt⟩ => ?_
  have S1 := nxt H GA (Ext.refl E.sub)
  obtain ⟨t, kvs, hx, p⟩ := ownD_inv p
  obtain ⟨a, q1, _, _, q4⟩ := S1.ow i _ hx
  unfold sE at p
  dsimp only at p
  refine ⟨e, GA, E, ?_⟩
  cases hr : fv e with
  | exc c fs' =>
    rw [hr] at p
    exact fun cls o H' s ix => p cls o σ H GA H' S1 s ix
  | bad => rw [hr] at p; exact p.elim
  | ok dv =>
    rw [hr] at p
    intro H1 G1 x1 v rv
    refine ⟨.ref a, q1, e, G1, E.ext x1, ?_⟩
    cases hr2 : fk e with
    | exc c fs' =>
      simp only [Res.bind_ok, hr2] at p
      exact fun cls o H' s ix => p cls o σ H1 G1 H' (nxt H1 G1 x1) s ix
    | bad => simp only [Res.bind_ok, hr2] at p; exact p.elim
    | ok dk =>
      simp only [Res.bind_ok, hr2] at p
      intro H2 G2 x2 k rk
      have xx := x1.trans x2
      have S2 := nxt H2 G2 xx
      have rv2 := rv.mono x2.gg
      by_cases hc : D.keyOk t dk = true ∧ kvs.length < sizeLine
      · rw [if_pos hc] at p
        have q4' := q4.mono xx.hh xx.gg
        rcases q4' with ⟨t0, ps, s, hkeys, rvv⟩ | ⟨t0, ps, s, hkeys, rvv⟩
        · subst t0
          have hk' : dk.isKey = true := by
            cases dk with
            | tup ds => simp [D.keyOk] at hc
            | _ => simpa [D.keyOk] using hc.1
          obtain ⟨κ, ek⟩ := key_of hk'
          subst ek
          have hl : ps.length < sizeLine := by
            have := congrArg List.length hkeys
            rw [List.length_map, List.length_map] at this
            omega
          obtain ⟨n1, n2⟩ := repv_set (fun _ _ => keyD_inj) hkeys rvv rv2 κ
          refine ⟨a, _, rfl, .inl ⟨ps, κ, s, rep_key rk, hl, rfl⟩, ?_⟩
          exact p σ _ G2 (S2.change hx q1 (.inl ⟨rfl, _, upd_same, n1, n2⟩))
        · subst t0
          cases dk with
          | tup ds =>
            have hk' : ds.all D.isKey = true := by simpa [D.keyOk] using hc.1
            obtain ⟨ks, ek⟩ := keys_of hk'
            subst ek
            obtain ⟨b, vs, e1, e2, e3⟩ := rk
            have ev' := rep_keys e3
            subst ev'
            have hl : ps.length < sizeLine := by
              have := congrArg List.length hkeys
              rw [List.length_map, List.length_map] at this
              omega
            obtain ⟨n1, n2⟩ := repv_set (f := keyT) (fun _ _ => keyT_inj) hkeys rvv rv2 ks
            refine ⟨a, _, rfl, .inr ⟨ps, ks, b, s, e1, xx.gh _ _ e2, hl, rfl⟩, ?_⟩
            exact p σ _ G2 (S2.change hx q1 (.inr ⟨rfl, _, upd_same, n1, n2⟩))
          | _ => simp [D.keyOk] at hc
      · rw [if_neg hc] at p; exact p.elim
/-- k in d, k not in d -/
noncomputable def dIn (no : Bool) : D → D → Res D := fun k d => match d with
  | .dct t kvs => if D.keyOk t k = true then .ok (.bl ((dFind kvs k).isSome != no)) else .bad
  | _ => .bad
theorem in_two {A : Nat → Prop} {fa fb : DL.Env → Res D} {no : Bool} {σ : L2.St} {H : Hp} {Q : VK} (h : tD X.K X.mg W A (eOp (dIn no) fa fb) σ H Q) :
    tD X.K X.mg W A fa σ H fun y H1 => tR X.K X.mg W A fb σ H1 fun x H2 => ∃ a o, x = V.ref a ∧ DGet H2 a y o ∧ Q (V.bl (o.isSome != no)) H2 := by
  obtain ⟨e, G, E, q⟩ := h
  refine ⟨e, G, E, q.split.imp fun k H1 G1 x1 q1 y ry => ⟨e, G1, E.ext x1, q1.split.imp fun d H2 G2 x2 q2 v rv => ?_⟩⟩
  cases d with
  | dct t kvs =>
    dsimp only [dIn] at q2
    by_cases hk : D.keyOk t k = true
    · rw [if_pos hk] at q2
      obtain ⟨a', ea, _⟩ := id rv
      subst ea
      obtain ⟨o, h1, h2⟩ := dget_rep x2.gh rv hk (ry.mono x2.gg)
      rcases h2 with ⟨e1, e2⟩ | ⟨d, w, e1, e2, e3⟩
      · rw [e1] at q2
        subst e2
        exact ⟨a', none, rfl, h1, q2.here x2.gh _ rfl⟩
      · rw [e1] at q2
        subst e2
        exact ⟨a', some w, rfl, h1, q2.here x2.gh _ rfl⟩
    · rw [if_neg hk] at q2; exact q2.elim
  | _ => exact (show False from q2).elim
theorem de_din {A : Nat → Prop} {a b : Expr} {fa fb : DL.Env → Res D} (hu : X.A.units + 1 < cLine) (ha : DE X W A a fa) (hb : DR X W A b fb) (hm : behindInMarks .In b = false := by rfl) : DE X W A (.Compare a [.In] [b] pos) (eOp (dIn false) fa fb) :=
  (pe_cmp (pc_din hu ha hb) hm).imp fun σ H Q h => by
    have := in_two h
    simp only [Bool.bne_false] at this
    exact this
theorem de_dnotin {A : Nat → Prop} {a b : Expr} {fa fb : DL.Env → Res D} (hu : X.A.units + 1 < cLine) (ha : DE X W A a fa) (hb : DR X W A b fb) (hm : behindInMarks .NotIn b = false := by rfl) : DE X W A (.Compare a [.NotIn] [b] pos) (eOp (dIn true) fa fb) :=
  (pe_cmp (pc_dnotin hu ha hb) hm).imp fun σ H Q h => by
    have := in_two h
    simp only [Bool.bne_true] at this
    exact this
theorem test_of {A : Nat → Prop} {f : DL.Env → Res D} {σ : L2.St} {H : Hp} {Q : Bool → Hp → Prop} (h : tT X.K X.mg W A (fun e => (f e).bind D.asB) σ H Q) : tD X.K X.mg W A f σ H fun v H' => ∃ k, v = .bl k ∧ Q k H' := by
  obtain ⟨e, G, E, q⟩ := h
  refine ⟨e, G, E, q.split.imp fun d H1 G1 x1 q1 v rv => ?_⟩
  cases d with
  | bl b => exact ⟨b, rv, q1.here x1.gh⟩
  | _ => exact (show False from q1).elim
theorem bTest_is (g : D → D → Res D) (fa fb : DL.Env → Res D) : bTest g fa fb = fun e => (eOp g fa fb e).bind D.asB := by
  funext e
  unfold bTest eOp
  cases fa e with
  | ok x => cases fb e with
    | ok y => rfl
    | exc c z => rfl
    | bad => rfl
  | exc c z => rfl
  | bad => rfl
theorem dt_din {A : Nat → Prop} {a b : Expr} {fa fb : DL.Env → Res D} (hu : X.A.units + 1 < cLine) (ha : DE X W A a fa) (hb : DR X W A b fb) (hm : behindInMarks .In b = false := by rfl) : DT X W A (.Compare a [.In] [b] pos) (bTest (dIn false) fa fb) :=
  (pt_cmp (pc_din hu ha hb) hm).imp fun σ H Q h => by
    rw [bTest_is] at h
    have := in_two (test_of h)
    simp only [Bool.bne_false] at this
    exact this
theorem dt_dnotin {A : Nat → Prop} {a b : Expr} {fa fb : DL.Env → Res D} (hu : X.A.units + 1 < cLine) (ha : DE X W A a fa) (hb : DR X W A b fb) (hm : behindInMarks .NotIn b = false := by rfl) : DT X W A (.Compare a [.NotIn] [b] pos) (bTest (dIn true) fa fb) :=
  (pt_cmp (pc_dnotin hu ha hb) hm).imp fun σ H Q h => by
    rw [bTest_is] at h
    have := in_two (test_of h)
    simp only [Bool.bne_true] at this
    exact this
end
end DL

/-! sorting tuples of any lengths, empty ones too -/
namespace DL
open PySem PySem.W PySem.Calls PyProof.Rows PySem.SeqAt
section
variable {prog : Program} {w : World} {A : Around} {s : Shared}
def hasItem : PyData → Bool
  | .tuple (_ :: _) => true
  | _ => false
theorem firsts_tups {M : Model} {E : Value → Shared → Prop} : ∀ {vs : List Value} {ds : List PyData} {Q : List (Option Value) → Shared → Prop}, EachIs (fun v d => ∃ as, Reads s.heap v d as) vs ds → (∀ d, d ∈ ds → ∃ xs, d = .tuple xs) →
    (∀ fs : List (Option Value), fs.map (·.isSome) = ds.map hasItem → Q fs s) → wpAny M A (vs.mapM firstOfTuple') Q E s
  | _, _, Q, .nil, _, h => by rw [List.mapM_nil]; exact wpAny_pure (h [] rfl)
  | _, _, Q, .cons (a := v) (as := vs) (b := d) (bs := ds) ⟨as, r⟩ t, ht, h => by
    obtain ⟨xs, rfl⟩ := ht d (List.mem_cons_self ..)
    rw [List.mapM_cons]
    refine wpAny_bind ?_
    rw [kas_first_eq]
    cases r with
    | @tuple a o vals n _ _ ho hc hd hr =>
      refine wpAny_bind (Looks.here (show Looks M s.heap (typeOf (.ref a)) o.cls from (Looks.ld ho).andThen .now) ?_)
      rw [hc, if_neg (by first | decide | simp)]
      refine wpAny_bind (listItems_at ho hd (wpAny_pure ?_))
      refine wpAny_bind (firsts_tups t (fun d hd => ht d (List.mem_cons_of_mem _ hd)) fun fs hfs => wpAny_pure (h _ ?_))
      rw [List.map_cons, List.map_cons, hfs]
      congr 1
      rw [← Array.getElem?_toList]
      cases xs with
      | nil =>
        generalize vals.toList = l at hr
        cases hr
        rfl
      | cons x xs =>
        generalize vals.toList = l at hr
        cases hr
        rfl
/-- tuple.__lt__ asked straight -/
theorem oneLt_tups {x y : Addr} {d e : List PyData} {as bs : List Addr} {E : Value → Shared → Prop} {Q : Bool → Shared → Prop} (ra : Reads s.heap (.ref x) (.tuple d) as) (rb : Reads s.heap (.ref y) (.tuple e) bs) (hal : alike (.tuple d) (.tuple e) = true)
    (hu : A.units + min (PyData.tuple d).depth (PyData.tuple e).depth < cLine) (h : Q (dataLt (.tuple d) (.tuple e)) s) : wpAny (model prog w) A (oneLt' true (.ref x) (.ref y)) Q E s := by
  have hall : alikeAll d e = true := by simpa [alike] using hal
  have room := hu
  cases ra with
  | @tuple _ o vs n _ as₁ h1 h2 h3 h4 =>
    cases rb with
    | @tuple _ o' vs' n' _ bs₁ k1 k2 k3 k4 =>
      have n1 : vs.size = d.length := by simpa using ReadsAll.length _ _ _ h4
      have n2 : vs'.size = e.length := by simpa using ReadsAll.length _ _ _ k4
      obtain ⟨cls, dd, data, sl⟩ := o
      obtain ⟨cls', dd', data', sl'⟩ := o'
      simp only at h2 h3 k2 k3
      subst h2 h3 k2 k3
      rw [oneLt'_eq]
      simp only [if_true]
      refine wpAny_bind (wpAny_cRoomFor (SeqAt.room_here hu) ?_)
      refine wpAny_bind (wpAny_callSpecialIfBound?_slot (T := "tuple") (s := s) (show s.TypeIs (.ref x) "tuple" from ⟨_, h1, rfl⟩) PySem.F.slot_tuple_lt ?_)
      rw [dataLt_tuple, ← firstLt_toks d e hall, ← n1, ← n2] at h
      refine call_meets PySem.F.slot_tuple_lt ⟨_, h1, rfl⟩ PySem.F.entry_tuple_lt (PySem.F.args_tuple_lt_2 _ _) (PySem.SeqAt.tuple_ltAt x y vs vs' n n' dd dd' sl sl' (pairEq d e) (fun j => dataLt (d.getD j .none) (e.getD j .none))) ⟨h1, k1, fun j j1 j2 => ?_, fun j j1 j2 hj => ?_, ?_⟩
      · have := eqAt_alikeAll d e A.in1 s vs.toList vs'.toList _ _ h4 k4 hall (SeqAt.room_in hu) j (by simpa using j1) (by simpa using j2)
        simpa using this
      · have := rcLt_alikeAll d e A.in1 s vs.toList vs'.toList _ _ h4 k4 hall (SeqAt.room_in hu) j (by simpa using j1) (by simpa using j2) hj
        simpa using this
      · exact wpAny_truthy_bool h
/-- the kind that list.sort finds -/
theorem kind_tups {vs : List Value} {ds : List PyData} (e : EachIs (fun v d => ∃ as, Reads s.heap v d as) vs ds) (ht : ∀ d, d ∈ ds → ∃ xs, d = .tuple xs) (hno : ∃ d, d ∈ ds ∧ hasItem d = false) :
    ∃ k : SortKind, (k = oneType' ∨ k = general') ∧ ∀ (M : Model) (E : Value → Shared → Prop) (Q : SortKind → Shared → Prop), Q k s → wpAny M A (keyKind' vs.toArray) Q E s := by
  cases ds with
  | nil => obtain ⟨d, hd, _⟩ := hno; cases hd
  | cons d₀ ds =>
    have hall : ∀ fs : List (Option Value), fs.map (·.isSome) = (d₀ :: ds).map hasItem → (fs.toArray.all fun x => x.isSome) = false := by
      intro fs hfs
      obtain ⟨d, hd, hf⟩ := hno
      have : false ∈ fs.map (·.isSome) := by rw [hfs]; exact List.mem_map.mpr ⟨d, hd, hf⟩
      obtain ⟨x, hx, hx2⟩ := List.mem_map.mp this
      rw [Bool.eq_false_iff]
      intro hA
      simp only [List.all_toArray, List.all_eq_true] at hA
      rw [hA x hx] at hx2
      cases hx2
    cases hd0 : hasItem d₀ with
    | true =>
      refine ⟨general', .inr rfl, fun M E Q q => ?_⟩
      rw [kat_kind_eq, List.mapM_toArray, map_eq_pure_bind]
      refine wpAny_bind (wpAny_bind (firsts_tups e ht fun fs hfs => wpAny_pure ?_))
      rw [if_neg (by rw [hall fs hfs]; decide)]
      cases fs with
      | nil => cases hfs
      | cons f fs =>
        rw [List.map_cons, List.map_cons, hd0] at hfs
        have hf : f.isSome = true := (List.cons.inj hfs).1
        have e0 : ((f :: fs).toArray[0]?.bind id).isSome = true := by simpa using hf
        rw [if_pos e0]
        exact wpAny_pure q
    | false =>
      refine ⟨oneType', .inl rfl, fun M E Q q => ?_⟩
      rw [kat_kind_eq, List.mapM_toArray, map_eq_pure_bind]
      refine wpAny_bind (wpAny_bind (firsts_tups e ht fun fs hfs => wpAny_pure ?_))
      rw [if_neg (by rw [hall fs hfs]; decide)]
      cases fs with
      | nil => cases hfs
      | cons f fs =>
        rw [List.map_cons, List.map_cons, hd0] at hfs
        have hf : f.isSome = false := (List.cons.inj hfs).1
        have e0 : ((f :: fs).toArray[0]?.bind id).isSome = false := by simpa using hf
        rw [if_neg (by rw [e0]; decide)]
        rw [oneTypeOnly'_eq, List.mapM_toArray, map_eq_pure_bind]
        refine wpAny_bind (wpAny_bind (wpAny_bind (kas_mapM (r := Value.type "tuple") _ (fun v hv Q' hq => ?_) (wpAny_pure ?_))))
        · obtain ⟨d, hd, as, r⟩ := e.left v hv
          obtain ⟨xs, rfl⟩ := ht d hd
          exact (looks_reads r).here hq
        · cases e with
          | cons h t =>
            rename_i v vs
            have hall2 : ((List.map (fun _ => Value.type "tuple") (v :: vs)).toArray.all fun x => x == Value.type "tuple") = true := by
              simp only [List.all_toArray, List.all_map, List.all_eq_true]
              intro _ _
              rfl
            have h0 : (List.map (fun _ => Value.type "tuple") (v :: vs)).toArray[0]? = some (Value.type "tuple") := by simp
            rw [h0]
            simp only [hall2, if_true]
            exact wpAny_pure (wpAny_pure q)
theorem keyLt_general (x y : Value) : keyLt' general' x y = oneLt' false x y := rfl
/-- values that read as tuples that are alike can be sorted -/
theorem sortsAt_tups {vs : List Value} {ds : List PyData} (e : EachIs (fun v d => ∃ as, Reads s.heap v d as) vs ds) (hal : AllAlike ds) (ht : ∀ d, d ∈ ds → ∃ xs, d = .tuple xs) (hu : ∀ d, d ∈ ds → A.units + d.depth < cLine) : SortsAt prog w A s (dataKind s.heap ds) vs := by
  by_cases hno : ∃ d, d ∈ ds ∧ hasItem d = false
  · obtain ⟨k, hk, hkd⟩ := kind_tups (A := A) e ht hno
    refine ⟨fun v hv => ?_, k, ?_, fun _ E Q q => hkd _ E Q q⟩
    · obtain ⟨d, hd, as, r⟩ := e.left v hv
      exact ⟨_, dataKind_some hal hd r⟩
    · intro E x y a b Q ha hb hq
      obtain ⟨d, as, hd, ra, rfl⟩ := dataKind_inv ha
      obtain ⟨d', as', hd', rb, rfl⟩ := dataKind_inv hb
      have hr : A.units + min d.depth d'.depth < cLine := Nat.lt_of_le_of_lt (Nat.add_le_add_left (Nat.min_le_left _ _) _) (hu d hd)
      obtain ⟨xs, rfl⟩ := ht d hd
      obtain ⟨ys, rfl⟩ := ht d' hd'
      rcases hk with rfl | rfl
      · rw [keyLt'_oneType]
        have hx : ∃ x', x = .ref x' := by cases ra; exact ⟨_, rfl⟩
        have hy : ∃ y', y = .ref y' := by cases rb; exact ⟨_, rfl⟩
        obtain ⟨x', rfl⟩ := hx
        obtain ⟨y', rfl⟩ := hy
        exact oneLt_tups ra rb (hal _ hd _ hd') hr hq
      · rw [keyLt_general]
        refine kat_one _ _ (lt_data ra rb (hal _ hd _ hd') (by simp) hr ?_)
        exact hq
  · refine SortsAt.data e hal (.inl fun d hd => ?_) hu
    obtain ⟨xs, rfl⟩ := ht d hd
    cases xs with
    | nil => exact absurd ⟨_, hd, rfl⟩ hno
    | cons x r => exact ⟨x, r, rfl⟩
/-- sorted(l), l of data that are alike -/
theorem sorted_all {β : Type} {vs : List Value} {bs : List β} {enc : β → PyData} {R : Value → β → Prop} {E : Value → Shared → Prop} {l : Addr} {Q : Value → Shared → Prop} (hl : s.heap.IsList l vs.toArray) (e : EachIs R vs bs) (er : EachIs (fun v b => ∃ as, Reads s.heap v (enc b) as) vs bs) (hal : AllAlike (bs.map enc))
    (hk : Sortable (bs.map enc) ∨ ∀ d, d ∈ bs.map enc → ∃ xs, d = .tuple xs) (hL : bs.length ≤ sizeLine)
    (hu : ∀ b, b ∈ bs → A.units + 2 + (enc b).depth < cLine) (h : ∀ out, out.length = bs.length → EachIs R out (bs.mergeSort (dataLe false enc)) → Q (.ref (s.heap.objs.size + 1)) { s with heap := sortedAll s.heap vs (List.toArray out) }) :
    wpAny (model prog w) A (call (.builtin "sorted") [.ref l]) Q E s := by
  rcases hk with hk | hk
  · exact sorted_data hl e er hal hk hL hu h
  · have er' : EachIs (fun v b => ∃ as, Reads (sortingHeap (copyHeap s.heap vs) (s.heap.objs.size + 1) vs) v (enc b) as) vs bs := er.mono fun _ _ ⟨as, r⟩ => ⟨as, PyProof.Rows.Reads.keeps (fun _ _ => sorting_copy_old) r⟩
    exact sorted_vals hl (sortsAt_tups (s := { s with heap := sortingHeap (copyHeap s.heap vs) (s.heap.objs.size + 1) vs }) (each_map (R := fun v d => ∃ as, Reads (sortingHeap (copyHeap s.heap vs) (s.heap.objs.size + 1) vs) v d as) enc er') hal hk (bound_map hu)) (by rw [e.length]; exact hL)
      (h _ (by rw [sortVals_length false rfl]; exact e.length) (sortVals_data false e er' hal))
end
end DL

/-! sorted(x), x a list, a tuple or a dict -/
namespace DL
open PySem PySem.Spec PyProof.Rows L2
section
open PySem.W PySem.Calls PySem.SeqAt
variable {prog : Program} {w : World} {A : Around} {s : Shared}
theorem collect_tup {l : Addr} {vs : List Value} {E : Value → Shared → Prop} {Q : List Value → Shared → Prop} (hl : s.heap.IsTuple l vs.toArray)
    (h : Q vs { s with heap := (s.heap.push (seqObj "list" #[] 0)).update s.heap.objs.size (Obj.mapSeq (· ++ vs.toArray)) }) (hsz : vs.length ≤ sizeLine := by size_fits) :
    wpAny (model prog w) A (collect (.ref l)) Q E s := by
  obtain ⟨o, ho, hc, n, hd⟩ := id hl
  unfold collect
  refine wpAny_bind (wpAny_runValue (codeAny_builtin entry_proto_collect' ?_))
  show wpAny _ _ (do again (.builtin "list.__iadd__" ⟨[← newList [], .ref l], []⟩)) _ _ s
  refine wpAny_bind (wpAny_newList (wpAny_pure ⟨Code.quiet_builtin _ (by decide +kernel), codeAny_builtin entry_list_iadd' ?_⟩))
  show wpAny _ _ (Builtin.List.listExtendWith (.ref s.heap.objs.size) (.ref l) (.ref s.heap.objs.size)) _ _ { s with heap := s.heap.push (seqObj "list" #[] 0) }
  unfold Builtin.List.listExtendWith
  have ho' : (s.heap.push (seqObj "list" #[] 0)).get? l = some o := Heap.get?_push_of_some _ ho
  refine wpAny_bind (wpAny_typeOf (T := "tuple") ⟨o, ho', hc⟩ ?_)
  have ht : (Value.type "tuple" == Value.type "tuple") = true := by rfl
  rw [if_pos (by rw [ht]; simp)]
  refine wpAny_bind (listItems_at ho' hd ?_)
  refine wpAny_bind (listItems_at (xs := #[]) (n := 0) (Heap.get?_push_size _ rfl) rfl ?_)
  rw [if_neg (by simp)]
  refine wpAny_bind (listUpdate_at (xs := #[]) (n := 0) (Heap.get?_push_size _ rfl) rfl ?_ (Nat.zero_le _) (by show (#[] ++ vs.toArray).size ≤ sizeLine + 1; simp only [Array.size_append, List.size_toArray, List.length_nil]; omega))
  refine wpAny_pure ?_
  show wpAny (model prog w) A (do
      let o ← load s.heap.objs.size
      match o.data with
      | .seq xs _ => pure xs.toList
      | _ => unsupported "internal:collect") Q E { s with heap := (s.heap.push (seqObj "list" #[] 0)).update s.heap.objs.size (Obj.mapSeq (· ++ vs.toArray)) }
  refine wpAny_bind (wpAny_load (get?_update_seq (Heap.get?_push_size _ rfl) _) ?_)
  show wpAny _ _ (pure ((#[] : Array Value) ++ vs.toArray).toList) Q E _
  rw [show ((#[] : Array Value) ++ vs.toArray).toList = vs by simp]
  exact wpAny_pure h
/-- sorted(x) of what can be collected -/
theorem sorted_gen {β : Type} {bs : List β} {enc : β → PyData} {R : Value → β → Prop} {E : Value → Shared → Prop} {x : Value} {Q : Value → Shared → Prop}
    (hc : ∀ (E' : Value → Shared → Prop) (Q' : List Value → Shared → Prop), (∀ vs h1 tk, (∀ b o, s.heap.get? b = some o → h1.get? b = some o) → EachIs R vs bs → Q' vs { s with heap := h1, toks := tk }) → wpAny (model prog w) A.in1 (collect x) Q' E' s)
    (hr : ∀ v b, R v b → ∃ as, Reads s.heap v (enc b) as) (hal : AllAlike (bs.map enc))
    (hk : Sortable (bs.map enc) ∨ ∀ d, d ∈ bs.map enc → ∃ xs, d = .tuple xs) (hL : bs.length ≤ sizeLine) (hu : ∀ b, b ∈ bs → A.units + 2 + (enc b).depth < cLine)
    (h : ∀ out d (h1 h2 : Heap) tk, (∀ b o, s.heap.get? b = some o → h1.get? b = some o) → (∀ b o, h1.get? b = some o → h2.get? b = some o) → h1.objs.size ≤ d → (∃ c, h2.get? d = some (seqObj "list" (List.toArray out) c)) → EachIs R out (bs.mergeSort (dataLe false enc)) → Q (.ref d) { s with heap := h2, toks := tk }) :
    wpAny (model prog w) A (call (.builtin "sorted") [x]) Q E s := by
  refine Calls.call_function_entry kind_sorted plain_sorted entry_sorted (args_sorted1 _) ?_
  unfold Builtin.«sorted»
  refine wpAny_bind (m := checkCount "sorted" 1 1 _) (wpAny_pure ?_)
  refine wpAny_bind (hc _ _ fun vs h1 tk keep e => ?_)
  have hlv : vs.length = bs.length := e.length
  refine wpAny_bind (wpAny_newList ?_ (by rw [hlv]; exact hL))
  have hoL : (h1.push (seqObj "list" vs.toArray 0)).get? h1.objs.size = some (seqObj "list" vs.toArray 0) := Heap.get?_push_size _ rfl
  have old : ∀ b o, s.heap.get? b = some o → b ≠ h1.objs.size ∧ (h1.push (seqObj "list" vs.toArray 0)).get? b = some o := fun b o q => by
    have q1 := keep b o q
    exact ⟨Nat.ne_of_lt (Heap.lt_size q1), Heap.get?_push_of_some _ q1⟩
  show wpAny _ _ _ _ _ { s with heap := h1.push (seqObj "list" vs.toArray 0), toks := tk }
  have er : EachIs (fun v b => ∃ as, Reads (sortingHeap (h1.push (seqObj "list" vs.toArray 0)) h1.objs.size vs) v (enc b) as) vs bs := e.mono fun v b q => by
    obtain ⟨as, r⟩ := hr v b q
    exact ⟨as, PyProof.Rows.Reads.keeps (fun b o z => sortingHeap_old (old b o z).1 (old b o z).2) r⟩
  have S : SortsAt prog w A.in1.in1 { s with heap := sortingHeap (h1.push (seqObj "list" vs.toArray 0)) h1.objs.size vs, toks := tk } (dataKind (sortingHeap (h1.push (seqObj "list" vs.toArray 0)) h1.objs.size vs) (bs.map enc)) vs := by
    have e2 := each_map (R := fun v d => ∃ as, Reads (sortingHeap (h1.push (seqObj "list" vs.toArray 0)) h1.objs.size vs) v d as) enc er
    have hu2 : ∀ d, d ∈ bs.map enc → A.in1.in1.units + d.depth < cLine := bound_map hu
    rcases hk with hk | hk
    · exact SortsAt.data (s := { s with heap := sortingHeap (h1.push (seqObj "list" vs.toArray 0)) h1.objs.size vs, toks := tk }) e2 hal hk hu2
    · exact sortsAt_tups (s := { s with heap := sortingHeap (h1.push (seqObj "list" vs.toArray 0)) h1.objs.size vs, toks := tk }) e2 hal hk hu2
  refine wpAny_bind (wpAny_holding (wpAny_call_entry slot_list_sort ⟨_, hoL, rfl⟩ entry_list_sort (list_sort_vals (s := { s with heap := h1.push (seqObj "list" vs.toArray 0), toks := tk }) hoL S (by rw [hlv]; exact hL) ⟨_, rfl, ?_⟩) (args_list_sort _)))
  refine wpAny_pure ⟨_, rfl, ?_⟩
  refine h _ h1.objs.size h1 _ tk keep (fun b o q => ?_) (Nat.le_refl _) (PyProof.Rows.sortedHeap_at (vs := vs) (out := (List.toArray _)) hoL) (sortVals_data false e er hal)
  have q2 : (h1.push (seqObj "list" vs.toArray 0)).get? b = some o := Heap.get?_push_of_some _ q
  rw [PyProof.Rows.sortedHeap_old (Nat.ne_of_lt (Heap.lt_size q)) (Heap.lt_size q2)]
  exact q2
end
/-! ### data -/
def D.le (x y : D) : Bool := !D.lt y x
def sortD (xs : List D) : List D := xs.mergeSort D.le
/-- these can be sorted -/
structure SortOk (xs : List D) : Prop where
  len : xs.length ≤ sizeLine
  pl : ∀ x ∈ xs, x.pl 50 = true
  al : ∀ x ∈ xs, ∀ y ∈ xs, PySem.W.alike x.py y.py = true
  kd : (∀ x ∈ xs, ∃ ys, x = .tup ys) ∨ ∀ x ∈ xs, x ≠ .non ∧ (∀ ys, x ≠ .tup ys) ∧ ∀ ys, x ≠ .con ys
theorem SortOk.kind {xs : List D} (h : SortOk xs) : PySem.W.Sortable (xs.map D.py) ∨ ∀ d, d ∈ xs.map D.py → ∃ ys, d = .tuple ys := by
  rcases h.kd with k | k
  · refine .inr fun d hd => ?_
    obtain ⟨x, hx, rfl⟩ := List.mem_map.mp hd
    obtain ⟨ys, rfl⟩ := k x hx
    exact ⟨D.pys ys, by simp [D.py]⟩
  · refine .inl (.inr fun d hd => ?_)
    obtain ⟨x, hx, rfl⟩ := List.mem_map.mp hd
    have hp := h.pl x hx
    obtain ⟨k1, k2, k3⟩ := k x hx
    cases x with
    | non => exact absurd rfl k1
    | tup ys => exact absurd rfl (k2 ys)
    | obj _ => simp [D.pl] at hp
    | dct _ _ => simp [D.pl] at hp
    | con ys => exact absurd rfl (k3 ys)
    | bl b => exact ⟨by simp [D.py], by simp [D.py]⟩
    | int b => exact ⟨by simp [D.py], by simp [D.py]⟩
    | str b => exact ⟨by simp [D.py], by simp [D.py]⟩
    | lst b => exact ⟨by simp [D.py], by simp [D.py]⟩
theorem SortOk.alike {xs : List D} (h : SortOk xs) : PySem.W.AllAlike (xs.map D.py) := by
  intro d hd d' hd'
  obtain ⟨x, hx, rfl⟩ := List.mem_map.mp hd
  obtain ⟨y, hy, rfl⟩ := List.mem_map.mp hd'
  exact h.al x hx y hy
/-- the value stands for the data -/
def IsD0 (K : PySem.W.Frag) (G : Hp) (v : Value) (d : D) : Prop := ∃ x : V, RelV x v ∧ Rep K G d x
theorem each_rep {K : PySem.W.Frag} {G : Hp} : ∀ {vs : List Value} {ds : List D}, PySem.W.EachIs (IsD0 K G) vs ds → ∃ xs : List V, Vals xs vs ∧ RepL K G ds xs
  | _, _, .nil => ⟨[], .nil, rfl⟩
  | _, _, .cons ⟨x, r, h⟩ t => by
    obtain ⟨xs, r2, h2⟩ := each_rep t
    exact ⟨x :: xs, .cons r r2, x, xs, rfl, h, h2⟩
theorem rep_each {K : PySem.W.Frag} {G : Hp} : ∀ {ds : List D} {xs : List V} {vs : List Value}, RepL K G ds xs → Vals xs vs → PySem.W.EachIs (IsD0 K G) vs ds
  | [], xs, vs, h, r => by
    have h : xs = [] := h
    subst h
    cases r
    exact .nil
  | d :: ds, xs, vs, ⟨x, xr, e, h1, h2⟩, r => by
    subst e
    cases r with
    | cons a b => exact .cons ⟨x, a, h1⟩ (rep_each h2 b)
/-- sorted(x): x's items (what is walked) stand for ds in a part G of the heap -/
def rSortSrc (K : PySem.W.Frag) (Src : Hp → Addr → List D → Hp → Prop) : List V → Hp → VK → Prop := fun xs H Q => ∃ (a : Addr) (ds : List D), xs = [V.ref a] ∧ SortOk ds ∧
  ∀ G, Src H a ds G → ∀ p ys, H p = none → RepL K G (sortD ds) ys → Q (.ref p) (upd H p (.lst ys))
section
variable {X : Cx} {W : WX}
/-- what can be collected from a -/
def CollOk (X : Cx) (pins : List (Addr × Obj)) (σ : L2.St) (H : Hp) (s : Shared) (a : Addr) (ds : List D) (G : Hp) : Prop :=
  Sub G H ∧ ∀ (E' : Value → Shared → Prop) (Q' : List Value → Shared → Prop), (∀ vs h1 tk, (∀ b o, s.heap.get? b = some o → h1.get? b = some o) → PySem.W.EachIs (IsD0 X.K G) vs ds → Q' vs { s with heap := h1, toks := tk }) → wpAny (model X.prog X.w) X.A.in1 (collect (.ref a)) Q' E' s
theorem isd_reads {pins : List (Addr × Obj)} {σ : L2.St} {H : Hp} {s : Shared} (I : Inv X pins σ H s) {G : Hp} (sg : Sub G H) {v : Value} {d : D} (hp : d.pl 50 = true) (h : IsD0 X.K G v d) : ∃ as, Reads s.heap v d.py as := by
  obtain ⟨x, r, h⟩ := h
  exact Dp.reads I d.py x v (Rep.dp d 50 x hp (h.mono sg)) r
theorem sort_rule {pins : List (Addr × Obj)} {σ : L2.St} {H : Hp} {s : Shared} {a : Addr} {ds : List D} {G : Hp} {Q : VK} (hu : X.A.units + 64 < cLine) (I : Inv X pins σ H s) (hc : CollOk X pins σ H s a ds G) (ok : SortOk ds)
    (q : ∀ p ys, H p = none → RepL X.K G (sortD ds) ys → Q (.ref p) (upd H p (.lst ys))) : wpAny (model X.prog X.w) X.A (call (.builtin "sorted") [.ref a]) (EP X pins σ Q) X.xe s := by
  obtain ⟨sg, hc⟩ := hc
  have key : ∀ v d, (IsD0 X.K G v d ∧ d ∈ ds) → ∃ as, Reads s.heap v d.py as := fun v d h => isd_reads I sg (ok.pl d h.2) h.1
  refine sorted_gen (R := fun v d => IsD0 X.K G v d ∧ d ∈ ds) (enc := D.py) (bs := ds) (fun E' Q' hq => hc E' Q' fun vs h1 tk k e => hq vs h1 tk k (PySem.W.each_mem e)) key ok.alike ok.kind ok.len (fun b hb => ?_) fun out d h1 h2 tk keep keep2 hd hat e => ?_
  · have := (py_can b 50 (ok.pl b hb)).2
    omega
  · obtain ⟨ys, r1, r2⟩ := each_rep (e.mono fun v d z => z.1)
    obtain ⟨c, hat⟩ := hat
    have hlen : ys.length ≤ sizeLine := by
      rw [r2.length, List.length_mergeSort]
      exact ok.len
    exact ⟨.ref d, upd H d (.lst ys), (I.kept (t' := tk) keep).laid (t' := tk) keep2 hd ⟨hlen, out, c, r1, hat⟩, rfl, q d ys ((I.kept (t' := tk) keep).hok.fresh hd) r2⟩
/-- lists, tuples -/
def SrcSeq (K : PySem.W.Frag) (H : Hp) (a : Addr) (ds : List D) (G : Hp) : Prop := Sub G H ∧ ∃ vs, (SqL K H a vs ∨ SqT K H a vs) ∧ RepL K G ds vs
theorem coll_seq {pins : List (Addr × Obj)} {σ : L2.St} {H : Hp} {s : Shared} {a : Addr} {ds : List D} {G : Hp} (I : Inv X pins σ H s) (h : SrcSeq X.K H a ds G) : CollOk X pins σ H s a ds G := by
  obtain ⟨sg, vs, h1, h2⟩ := h
  refine ⟨sg, fun E' Q' hq => ?_⟩
  rcases h1 with h1 | h1
  · obtain ⟨its, rv, p, hz⟩ := I.list h1
    refine collect_list p.isList (hq its _ _ (fun b o e => ?_) (rep_each h2 rv)) (by rw [← rv.length]; exact hz)
    rw [Heap.get?_update_ne _ _ _ _ (Nat.ne_of_lt (Heap.lt_size e))]
    exact Heap.get?_push_of_some _ e
  · obtain ⟨its, rv, p, hz⟩ := I.tuple h1
    refine collect_tup p (hq its _ _ (fun b o e => ?_) (rep_each h2 rv)) (by rw [← rv.length]; exact hz)
    rw [Heap.get?_update_ne _ _ _ _ (Nat.ne_of_lt (Heap.lt_size e))]
    exact Heap.get?_push_of_some _ e
/-- dicts of numbers and texts -/
theorem coll_dK {pins : List (Addr × Obj)} {σ : L2.St} {H : Hp} {s : Shared} {a : Addr} {kvs : List (Key × V)} {G : Hp} (hcalm : X.calm = true) (I : Inv X pins σ H s) (sg : Sub G H) (hd : Rd H a (.dK kvs)) : CollOk X pins σ H s a (kvs.map fun p => keyD p.1) G := by
  refine ⟨sg, fun E' Q' hq => ?_⟩
  obtain ⟨z, lo, vs, rel, dd⟩ := dk_rd I.hok hd
  obtain ⟨ep, hat⟩ := dd.dictAt
  have hl : vs.length = kvs.length := by
    have e := congrArg List.length rel.keys
    rw [List.length_map, List.length_map] at e
    exact e.symm
  refine PySem.W.kdu_collect (A := X.A.in1) (PySem.W.kdl_dict (knd := mixKind X.prog X.w) (kvs := vs) (ep := ep) lo) (I.ok.hd hcalm) hat (by rw [hl]; exact z) fun h' tk acc hk hacc => ?_
  refine hq _ _ _ hk ?_
  have hal : acc.toList.length = kvs.length := by rw [Array.length_toList, hacc.1, hl]
  have e1 : (kvs.map fun p => keyD p.1) = (kvs.map (·.1)).map keyD := by rw [List.map_map]; rfl
  rw [e1, rel.keys]
  refine rep_each (xs := (vs.map (·.1)).map kV) ?_ (vals_of_at (by rw [List.length_map, List.length_map, hal, hl]) fun j x w h1 h2 => ?_)
  · generalize vs.map (·.1) = ks
    induction ks with
    | nil => rfl
    | cons k ks ih => exact ⟨kV k, ks.map kV, rfl, by cases k <;> rfl, ih⟩
  · obtain ⟨k, y, hky, hi⟩ := hacc.2 j w (by rw [← Array.getElem?_toList]; exact h2)
    rw [List.getElem?_map, List.getElem?_map, hky] at h1
    cases h1
    exact keyIs_rel hi
/-- dicts of tuples -/
theorem coll_dT {pins : List (Addr × Obj)} {σ : L2.St} {H : Hp} {s : Shared} {a : Addr} {kvs : List (List Key × V)} (hcalm : X.calm = true) (I : Inv X pins σ H s) (hd : Rd H a (.dT kvs)) :
    ∃ bs : List Addr, (∀ b ∈ bs, ∃ vs, H b = some (.tup vs)) ∧ ∀ G, Sub G H → (∀ b ∈ bs, G b = H b) → CollOk X pins σ H s a (kvs.map fun p => keyT p.1) G := by
  obtain ⟨z, hs, ks, pr, o, es, ep, ho, hx, hdt, he, hn⟩ := (show ObjOk X.prog X.w H s.heap a (.dT kvs) from hd.ok I.hok)
  have l1 : es.size = ks.length := size_of_entries he
  have l2 : kvs.length = ks.length := Paired.length pr
  have ik := isKeys_of pr
  refine ⟨ks.map fun x => x.2.1, ?_, fun G sg hG => ⟨sg, fun E' Q' hq => ?_⟩⟩
  · intro b hb
    unfold IsKeys at ik
    have : ∀ {l : List (List Key × V)} {m : List Addr}, Paired (fun p b => H b = some (.tup (p.1.map kV))) l m → ∀ b ∈ m, ∃ vs, H b = some (.tup vs) := by
      intro l m q
      induction q with
      | nil => intro b hb; cases hb
      | cons h t ih =>
        intro b hb
        rcases List.mem_cons.mp hb with e | hb
        · subst e; exact ⟨_, h⟩
        · exact ih b hb
    exact this ik b hb
  · refine PySem.W.kdu_collect (A := X.A.in1) (kdl_raw hs hx hdt) (I.ok.hd hcalm) ho (by omega) fun h' tk acc' kp it => ?_
    refine hq _ _ _ kp ?_
    have ea : acc'.toList = ks.map fun x => Value.ref x.2.1 := by
      have hl : acc'.toList.length = ks.length := by rw [Array.length_toList, it.1]; exact l1
      apply List.ext_getElem?
      intro j
      rw [List.getElem?_map]
      cases hj : acc'.toList[j]? with
      | none =>
        have h1 := List.getElem?_eq_none_iff.mp hj
        rw [List.getElem?_eq_none (by omega)]
        all_goals rfl
      | some v =>
        obtain ⟨en, hen, hv⟩ := it.2 j v (by rw [← Array.getElem?_toList]; exact hj)
        have qe := entry_at he j
        rw [hen] at qe
        cases hb : ks[j]? with
        | none =>
          rw [hb] at qe
          exact nomatch (show some en = none from qe)
        | some b =>
          rw [hb] at qe
          have e2 : en = entryOfKey (tupleKind (mixKind X.prog X.w)) b := Option.some.inj qe
          rw [hv, e2]
          rfl
    rw [ea]
    have gen : ∀ {l : List (List Key × V)} {m : List (List Key × Addr × Value)}, Paired (fun p b => H b = some (.tup (p.1.map kV))) l (m.map fun x => x.2.1) → (∀ x ∈ m, G x.2.1 = H x.2.1) → RepL X.K G (l.map fun p => keyT p.1) (m.map fun x => V.ref x.2.1) := by
      intro l
      induction l with
      | nil => intro m q _; cases m with
        | nil => rfl
        | cons x m => cases q
      | cons p l ih =>
        intro m q hm
        cases m with
        | nil => cases q
        | cons x m =>
          cases q with
          | cons h t =>
            refine ⟨V.ref x.2.1, m.map fun x => V.ref x.2.1, rfl, ⟨x.2.1, p.1.map kV, rfl, ?_, ?_⟩, ih t fun y hy => hm y (List.mem_cons_of_mem _ hy)⟩
            · rw [hm x List.mem_cons_self]; exact h
            · generalize p.1 = ks'
              induction ks' with
              | nil => rfl
              | cons k ks' ih => exact ⟨kV k, ks'.map kV, rfl, by cases k <;> rfl, ih⟩
    refine rep_each (gen ik fun x hx => hG _ (List.mem_map.mpr ⟨x, hx, rfl⟩)) ?_
    have e3 : (ks.map fun x => V.ref x.2.1) = (ks.map fun x => x.2.1).map V.ref := by rw [List.map_map]; rfl
    have e4 : (ks.map fun x => Value.ref x.2.1) = (ks.map fun x => x.2.1).map Value.ref := by rw [List.map_map]; rfl
    rw [e3, e4]
    exact vals_refs _
/-- what a walk over the data yields -/
def D.items : D → Option (List D)
  | .lst xs => some xs
  | .tup xs => some xs
  | .dct _ kvs => some (kvs.map (·.1))
  | _ => none
open Classical in
noncomputable def dSorted : D → Res D := fun d => match d.items with
  | some xs => if SortOk xs then .ok (.lst (sortD xs)) else .bad
  | none => .bad
def rSorted0 (X : Cx) : List V → Hp → VK → Prop := fun xs H Q => ∃ (a : Addr) (ds : List D), xs = [V.ref a] ∧ SortOk ds ∧
  ((∃ G, SrcSeq X.K H a ds G ∧ ∀ p ys, H p = none → RepL X.K G (sortD ds) ys → Q (.ref p) (upd H p (.lst ys))) ∨
   (∃ kvs, Rd H a (.dK kvs) ∧ ds = kvs.map (fun p => keyD p.1) ∧ ∃ G, Sub G H ∧ ∀ p ys, H p = none → RepL X.K G (sortD ds) ys → Q (.ref p) (upd H p (.lst ys))) ∨
   (∃ kvs, Rd H a (.dT kvs) ∧ ds = kvs.map (fun p => keyT p.1) ∧ ∀ (bs : List Addr) G, (∀ b ∈ bs, ∃ vs, H b = some (.tup vs)) → Sub G H → (∀ b o, G b = some o → b ∈ bs) → ∀ p ys, H p = none → RepL X.K G (sortD ds) ys → Q (.ref p) (upd H p (.lst ys))))
open Classical in
theorem cr_sorted0 (hcalm : X.calm = true) (hu : X.A.units + 64 < cLine) : CallR X (.builtin "sorted") (rSorted0 X) := by
  intro pins s σ H xs us Q I r h
  obtain ⟨a, ds, rfl, ok, h⟩ := h
  obtain ⟨u, rfl, ru⟩ := vals1 r
  obtain rfl : u = Value.ref a := ru
  rcases h with ⟨G, h1, q⟩ | ⟨kvs, h1, rfl, G, sg, q⟩ | ⟨kvs, h1, rfl, q⟩
  · exact sort_rule hu I (coll_seq I h1) ok q
  · exact sort_rule hu I (coll_dK hcalm I sg h1) ok q
  · obtain ⟨bs, b1, b2⟩ := coll_dT hcalm I h1
    have hG : Sub (fun b => if b ∈ bs then H b else none) H := fun b o e => by
      dsimp only at e
      split at e
      · exact e
      · cases e
    refine sort_rule hu I (b2 (fun b => if b ∈ bs then H b else none) hG fun b hb => if_pos hb) ok (q bs _ b1 hG fun b o e => ?_)
    split at e
    · assumption
    · cases e
open Classical in
theorem c1_sorted (hcalm : X.calm = true) (hu : X.A.units + 64 < cLine) : Call1F X W (.builtin "sorted") dSorted := by
  refine ⟨_, cr_sorted0 hcalm hu, fun σ H G x dx Q sg rx p => ?_⟩
  unfold dSorted at p
  cases hi : dx.items with
  | none => rw [hi] at p; exact p.elim
  | some ds =>
    rw [hi] at p
    dsimp only at p
    by_cases ok : SortOk ds
    · rw [if_pos ok] at p
      have fin : ∀ G2, Ext H G H G2 → ∀ q ys, H q = none → RepL X.K G2 (sortD ds) ys → Q (.ref q) (upd H q (.lst ys)) := fun G2 x2 q ys hq r =>
        p (upd H q (.lst ys)) G2 ⟨x2.hh.trans (Sub.upd hq), x2.gg, x2.gh.trans (Sub.upd hq), x2.new⟩ q hq (x2.gh.free hq) ⟨ys, upd_same, r⟩
      cases dx with
      | lst xs =>
        cases hi
        obtain ⟨a, vs, rfl, s, r⟩ := rx
        exact ⟨a, _, rfl, ok, .inl ⟨G, ⟨sg, vs, .inl s, r⟩, fin G (Ext.refl sg)⟩⟩
      | tup xs =>
        cases hi
        obtain ⟨a, vs, rfl, s, r⟩ := (show Rep X.K G (.tup _) x from rx)
        exact ⟨a, _, rfl, ok, .inl ⟨G, ⟨sg, vs, .inr (sg.pt s), r⟩, fin G (Ext.refl sg)⟩⟩
      | dct t kvs =>
        cases hi
        obtain ⟨a, rfl, h⟩ := rx
        rcases h with ⟨t0, ps, s, hkeys, rv⟩ | ⟨t0, ps, s, hkeys, rv⟩
        · exact ⟨a, _, rfl, ok, .inr (.inl ⟨ps, s, hkeys, G, sg, fin G (Ext.refl sg)⟩)⟩
        · refine ⟨a, _, rfl, ok, .inr (.inr ⟨ps, s, hkeys, fun bs G1 hb sg1 hG1 q ys hq r => ?_⟩)⟩
          have s2 : Sub G (fun b => if b ∈ bs then H b else G b) := fun b o e => by
            dsimp only
            by_cases hbb : b ∈ bs
            · rw [if_pos hbb]; exact sg _ _ e
            · rw [if_neg hbb]; exact e
          have s3 : Sub G1 (fun b => if b ∈ bs then H b else G b) := fun b o e => by
            dsimp only
            rw [if_pos (hG1 b o e)]; exact sg1 _ _ e
          have s4 : Sub (fun b => if b ∈ bs then H b else G b) H := fun b o e => by
            dsimp only at e
            by_cases hbb : b ∈ bs
            · rw [if_pos hbb] at e; exact e
            · rw [if_neg hbb] at e; exact sg _ _ e
          refine fin _ ⟨Sub.refl H, s2, s4, fun b e => ?_⟩ q ys hq (r.mono s3)
          by_cases hbb : b ∈ bs
          · exact .inr (.inr (hb b hbb))
          · rw [if_neg hbb] at e; exact .inl e
      | _ => cases hi
    · rw [if_neg ok] at p; exact p.elim
end
end DL

/-! rules that look at the data: index, in, is, slices with a step, methods -/
namespace DL
open PySem PySem.Spec PyProof.Rows L2
open PySem.Builtin.Int (intBits)
section
variable {X : Cx} {W : WX} {A : Nat → Prop} {a b c ex : Expr} {pos p p1 p2 apos cpos : Pos}
/-- either of two readings, as the data say -/
theorem de_pick {f f1 f2 : DL.Env → Res D} (h1 : DE X W A ex f1) (h2 : DE X W A ex f2) (hf : ∀ e, f e = f1 e ∨ f e = f2 e ∨ f e = .bad) : DE X W A ex f :=
  ⟨fun pins s σ H Q I ⟨e, G, E, q⟩ => by
    rcases hf e with z | z | z
    · rw [z] at q; exact h1.run pins s σ H Q I ⟨e, G, E, q⟩
    · rw [z] at q; exact h2.run pins s σ H Q I ⟨e, G, E, q⟩
    · rw [z] at q; exact q.elim⟩
theorem dt_pick {f f1 f2 : DL.Env → Res Bool} (h1 : DT X W A ex f1) (h2 : DT X W A ex f2) (hf : ∀ e, f e = f1 e ∨ f e = f2 e ∨ f e = .bad) : DT X W A ex f :=
  ⟨fun pins s σ H Q I ⟨e, G, E, q⟩ => by
    rcases hf e with z | z | z
    · rw [z] at q; exact h1.run pins s σ H Q I ⟨e, G, E, q⟩
    · rw [z] at q; exact h2.run pins s σ H Q I ⟨e, G, E, q⟩
    · rw [z] at q; exact q.elim⟩
theorem eOp_pick {g g1 g2 : D → D → Res D} {fa fb : DL.Env → Res D} (h : ∀ x y, g x y = g1 x y ∨ g x y = g2 x y ∨ g x y = .bad) (e : DL.Env) : eOp g fa fb e = eOp g1 fa fb e ∨ eOp g fa fb e = eOp g2 fa fb e ∨ eOp g fa fb e = .bad := by
  unfold eOp
  cases ha : fa e with
  | ok x =>
    cases hb : fb e with
    | ok y => exact h x y
    | exc _ _ => exact .inl rfl
    | bad => exact .inl rfl
  | exc _ _ => exact .inl rfl
  | bad => exact .inl rfl
theorem bTest_pick {g g1 g2 : D → D → Res D} {fa fb : DL.Env → Res D} (h : ∀ x y, g x y = g1 x y ∨ g x y = g2 x y ∨ g x y = .bad) (e : DL.Env) : bTest g fa fb e = bTest g1 fa fb e ∨ bTest g fa fb e = bTest g2 fa fb e ∨ bTest g fa fb e = .bad := by
  unfold bTest
  cases ha : fa e with
  | ok x =>
    cases hb : fb e with
    | ok y =>
      rcases h x y with z | z | z
      · exact .inl (by simp only [Res.bind_ok, z])
      · exact .inr (.inl (by simp only [Res.bind_ok, z]))
      · exact .inr (.inr (by simp only [Res.bind_ok, z, Res.bind_bad]))
    | exc _ _ => exact .inl rfl
    | bad => exact .inl rfl
  | exc _ _ => exact .inl rfl
  | bad => exact .inl rfl
/-! ### x[k] of any kind -/
noncomputable def dIxA (x y : D) : Res D := match x with
  | .dct t kvs => dAt (.dct t kvs) y
  | x => dIx x y
theorem de_ixA {fa fb : DL.Env → Res D} (hu : X.A.units + 1 < cLine) (ha : DR X W A a fa) (hb : DE X W A b fb) (hs : NoSl b) (hs2 : PlainIx b) : DE X W A (.Subscript a b pos) (eOp dIxA fa fb) :=
  de_pick (de_dix hu ha hb hs) (de_ix ha (dr hb) hs2) (eOp_pick fun x y => by cases x <;> first | exact .inl rfl | exact .inr (.inl rfl))
/-! ### is -/
def dIs : D → D → Res D
  | .bl a, .bl b => .ok (.bl (decide (a = b)))
  | .obj _, .non => .bad
  | .non, .non => .ok (.bl true)
  | _, .non => .ok (.bl false)
  | _, _ => .bad
def dIsNot (x y : D) : Res D := (dIs x y).bind fun z => match z with
  | .bl k => .ok (.bl (!k))
  | _ => .bad
theorem non_rep {K : PySem.W.Frag} {H G : Hp} {d : D} {v : V} (h : ∀ u, d ≠ .obj u) (r : RepC K H G d v) : decide (v = .non) = (match d with | .non => true | _ => false) := by
  cases d with
  | non => exact decide_eq_true r
  | bl b => exact decide_eq_false (by rw [show v = _ from r]; simp)
  | int b => exact decide_eq_false (by rw [show v = _ from r]; simp)
  | str b => exact decide_eq_false (by rw [show v = _ from r]; simp)
  | obj u => exact absurd rfl (h u)
  | tup _ => obtain ⟨a, vs, e, _⟩ := (show Rep K G (.tup _) v from r); subst e; rfl
  | con _ => obtain ⟨a, vs, e, _⟩ := (show Rep K G (.con _) v from r); subst e; rfl
  | lst _ => obtain ⟨a, vs, e, _⟩ := r; subst e; rfl
  | dct _ _ => obtain ⟨a, e, _⟩ := r; subst e; rfl
theorem od_is : OpD X W (compareOp .Is) dIs := by
  refine ⟨_, OpR.or op_isBl op_isN, fun σ H G x y dx dy Q sg rx ry p => ?_⟩
  cases dy with
  | bl b =>
    cases dx with
    | bl a => exact .inl ⟨a, b, rx, ry, PostG.val (d := .bl (decide (a = b))) p sg rfl⟩
    | _ => exact (show False from p).elim
  | non =>
    have hy : y = .non := ry
    refine .inr ⟨hy, ?_⟩
    by_cases ho : ∃ u, dx = .obj u
    · obtain ⟨u, rfl⟩ := ho
      exact (show False from p).elim
    · rw [non_rep (fun u z => ho ⟨u, z⟩) rx]
      cases dx with
      | obj u => exact absurd ⟨u, rfl⟩ ho
      | non => exact PostG.val (d := .bl true) p sg rfl
      | _ => exact PostG.val (d := .bl false) p sg rfl
  | _ => cases dx <;> exact (show False from p).elim
theorem od_isNot : OpD X W (compareOp .IsNot) dIsNot := by
  refine ⟨_, OpR.or op_notBl op_notN, fun σ H G x y dx dy Q sg rx ry p => ?_⟩
  cases dy with
  | bl b =>
    cases dx with
    | bl a => exact .inl ⟨a, b, rx, ry, PostG.val (d := .bl (!decide (a = b))) p sg rfl⟩
    | _ => exact (show False from p).elim
  | non =>
    have hy : y = .non := ry
    refine .inr ⟨hy, ?_⟩
    by_cases ho : ∃ u, dx = .obj u
    · obtain ⟨u, rfl⟩ := ho
      exact (show False from p).elim
    · rw [non_rep (fun u z => ho ⟨u, z⟩) rx]
      cases dx with
      | obj u => exact absurd ⟨u, rfl⟩ ho
      | non => exact PostG.val (d := .bl false) p sg rfl
      | _ => exact PostG.val (d := .bl true) p sg rfl
  | _ => cases dx <;> exact (show False from p).elim
/-! ### in, of lists, tuples and texts -/
def D.has (xs : List D) (k : D) : Bool := xs.any fun z => D.beq z k
def strIn (k s : Str) : Bool := !(Builtin.Str.occurrences s k 0 s.length 1).isEmpty
def dInS (no : Bool) : D → D → Res D := fun k c => match c with
  | .lst xs => if k.pl 50 = true ∧ D.pls xs 50 = true then .ok (.bl (D.has xs k != no)) else .bad
  | .tup xs => if k.pl 50 = true ∧ D.pls xs 50 = true then .ok (.bl (D.has xs k != no)) else .bad
  | .con xs => if k.pl 50 = true ∧ D.pls xs 50 = true then .ok (.bl (D.has xs k != no)) else .bad
  | .str s => match k with
    | .str k => .ok (.bl (strIn k s != no))
    | _ => .bad
  | _ => .bad
def rInT (K : PySem.W.Frag) (no : Bool) : R2 := fun x y H Q => ∃ d ds, Dp K H x d ∧ Dp K H y (.tuple ds) ∧ SeqAt.shaped d = true ∧ SeqAt.shaped (.tuple ds) = true ∧ Q (.bl ((ds.any fun z => PyData.eqv z d) != no)) H
theorem op_inT (hu : X.A.units + 65 < cLine) : OpR X (compareOp .In) (rInT X.K false) := by
  intro pins s σ H x y v u Q I rx ry h
  obtain ⟨d, ds, hd, he, sd, se, q⟩ := h
  obtain ⟨as, r1⟩ := Dp.reads I d x v hd rx
  obtain ⟨bs, r2⟩ := Dp.reads I (.tuple ds) y u he ry
  rw [Bool.bne_false] at q
  exact SeqAt.in_tuple_reads r2 r1 (SeqAt.canLay_of_shaped se) (SeqAt.canLay_of_shaped sd) (room_in_shaped sd hu) ⟨.bl _, H, I, rfl, q⟩
theorem op_notInT (hu : X.A.units + 65 < cLine) : OpR X (compareOp .NotIn) (rInT X.K true) := by
  intro pins s σ H x y v u Q I rx ry h
  obtain ⟨d, ds, hd, he, sd, se, q⟩ := h
  obtain ⟨as, r1⟩ := Dp.reads I d x v hd rx
  obtain ⟨bs, r2⟩ := Dp.reads I (.tuple ds) y u he ry
  rw [Bool.bne_true] at q
  exact SeqAt.notIn_tuple_reads r2 r1 (SeqAt.canLay_of_shaped se) (SeqAt.canLay_of_shaped sd) (room_in_shaped sd hu) ⟨.bl _, H, I, rfl, q⟩
theorem any_pys (k : D) : ∀ xs : List D, ((D.pys xs).any fun z => PyData.eqv z k.py) = D.has xs k
  | [] => rfl
  | x :: xs => by
    unfold D.has
    rw [D.pys, List.any_cons, List.any_cons, any_pys k xs]
    rfl
theorem shaped_pyL {xs : List D} (h : D.pls xs 50 = true) : SeqAt.shaped (.list (D.pys xs)) = true := by
  have := shaped_py (d := .lst xs) (n := 51) (by simpa [D.pl] using h) (by decide)
  simpa [D.py] using this
theorem shaped_pyT {xs : List D} (h : D.pls xs 50 = true) : SeqAt.shaped (.tuple (D.pys xs)) = true := by
  have := shaped_py (d := .tup xs) (n := 51) (by simpa [D.pl] using h) (by decide)
  simpa [D.py] using this
theorem od_inS_gen {op : CmpOp} (no : Bool) (o1 : OpR X (compareOp op) fun x y H Q => ∃ d ds, Dp X.K H x d ∧ Dp X.K H y (.list ds) ∧ SeqAt.shaped d = true ∧ SeqAt.shaped (.list ds) = true ∧ Q (.bl ((ds.any fun z => PyData.eqv z d) != no)) H)
    (o2 : OpR X (compareOp op) (rInT X.K no)) (o3 : OpR X (compareOp op) fun x y H Q => ∃ i j, x = .str i ∧ y = .str j ∧ Q (.bl (strIn i j != no)) H) : OpD X W (compareOp op) (dInS no) := by
  refine ⟨_, OpR.or o1 (OpR.or o2 o3), fun σ H G x y dk dc Q sg rx ry p => ?_⟩
  cases dc with
  | lst xs =>
    dsimp only [dInS] at p
    by_cases hc : dk.pl 50 = true ∧ D.pls xs 50 = true
    · rw [if_pos hc] at p
      refine .inl ⟨dk.py, D.pys xs, Rep.dp dk 50 x hc.1 (rx.all sg (pl_nd hc.1)), ?_, shaped_py hc.1 (by decide), shaped_pyL hc.2, ?_⟩
      · obtain ⟨a, vs, rfl, s, r⟩ := ry
        exact .lst s (RepL.dp xs 50 vs hc.2 (r.mono sg))
      · rw [any_pys]; exact p.val sg rfl
    · rw [if_neg hc] at p; exact p.elim
  | tup xs =>
    dsimp only [dInS] at p
    by_cases hc : dk.pl 50 = true ∧ D.pls xs 50 = true
    · rw [if_pos hc] at p
      refine .inr (.inl ⟨dk.py, D.pys xs, Rep.dp dk 50 x hc.1 (rx.all sg (pl_nd hc.1)), ?_, shaped_py hc.1 (by decide), shaped_pyT hc.2, ?_⟩)
      · obtain ⟨a, vs, rfl, s, r⟩ := (show Rep X.K G (.tup xs) y from ry)
        exact .tup (sg.pt s) (RepL.dp xs 50 vs hc.2 (r.mono sg))
      · rw [any_pys]; exact p.val sg rfl
    · rw [if_neg hc] at p; exact p.elim
  | con xs =>
    dsimp only [dInS] at p
    by_cases hc : dk.pl 50 = true ∧ D.pls xs 50 = true
    · rw [if_pos hc] at p
      refine .inr (.inl ⟨dk.py, D.pys xs, Rep.dp dk 50 x hc.1 (rx.all sg (pl_nd hc.1)), ?_, shaped_py hc.1 (by decide), shaped_pyT hc.2, ?_⟩)
      · obtain ⟨a, vs, rfl, s, r⟩ := (show Rep X.K G (.con xs) y from ry)
        exact .tup (sg.sqt s) (RepL.dp xs 50 vs hc.2 (r.mono sg))
      · rw [any_pys]; exact p.val sg rfl
    · rw [if_neg hc] at p; exact p.elim
  | str s =>
    cases dk with
    | str k => exact .inr (.inr ⟨k, s, rx, ry, PostG.val (d := .bl (strIn k s != no)) p sg rfl⟩)
    | _ => exact (show False from p).elim
  | _ => exact (show False from p).elim
theorem od_inS (hu : X.A.units + 65 < cLine) : OpD X W (compareOp .In) (dInS false) :=
  od_inS_gen false (by
    have h := op_inD (X := X) hu
    unfold rInD at h
    simpa only [Bool.bne_false] using h) (op_inT hu) (by
    have h := op_in_str (X := X)
    unfold strIn
    simpa only [Bool.bne_false] using h)
theorem od_notInS (hu : X.A.units + 65 < cLine) : OpD X W (compareOp .NotIn) (dInS true) :=
  od_inS_gen true (by
    have h := op_notInD (X := X) hu
    unfold rNotInD at h
    simpa only [Bool.bne_true] using h) (op_notInT hu) (by
    have h := op_notin_str (X := X)
    unfold strIn
    simpa only [Bool.bne_true] using h)
noncomputable def dInA (no : Bool) (k c : D) : Res D := match c with
  | .dct t kvs => dIn no k (.dct t kvs)
  | c => dInS no k c
theorem inA_pick (no : Bool) (x y : D) : dInA no x y = dIn no x y ∨ dInA no x y = dInS no x y ∨ dInA no x y = .bad := by
  cases y <;> first | exact .inl rfl | exact .inr (.inl rfl)
theorem de_inA {fa fb : DL.Env → Res D} (hu : X.A.units + 65 < cLine) (ha : DE X W A a fa) (hb : DR X W A b fb) (hm : behindInMarks .In b = false := by rfl) : DE X W A (.Compare a [.In] [b] pos) (eOp (dInA false) fa fb) :=
  de_pick (de_din (by omega) ha hb hm) (de_cmp (od_inS hu) (dr ha) hb hm) (eOp_pick (inA_pick false))
theorem de_notInA {fa fb : DL.Env → Res D} (hu : X.A.units + 65 < cLine) (ha : DE X W A a fa) (hb : DR X W A b fb) (hm : behindInMarks .NotIn b = false := by rfl) : DE X W A (.Compare a [.NotIn] [b] pos) (eOp (dInA true) fa fb) :=
  de_pick (de_dnotin (by omega) ha hb hm) (de_cmp (od_notInS hu) (dr ha) hb hm) (eOp_pick (inA_pick true))
theorem dt_inA {fa fb : DL.Env → Res D} (hu : X.A.units + 65 < cLine) (ha : DE X W A a fa) (hb : DR X W A b fb) (hm : behindInMarks .In b = false := by rfl) : DT X W A (.Compare a [.In] [b] pos) (bTest (dInA false) fa fb) :=
  dt_pick (dt_din (by omega) ha hb hm) (dt_cmp (od_inS hu) (dr ha) hb hm) (bTest_pick (inA_pick false))
theorem dt_notInA {fa fb : DL.Env → Res D} (hu : X.A.units + 65 < cLine) (ha : DE X W A a fa) (hb : DR X W A b fb) (hm : behindInMarks .NotIn b = false := by rfl) : DT X W A (.Compare a [.NotIn] [b] pos) (bTest (dInA true) fa fb) :=
  dt_pick (dt_dnotin (by omega) ha hb hm) (dt_cmp (od_notInS hu) (dr ha) hb hm) (bTest_pick (inA_pick true))
theorem _root_.L2.Room.hu65 {k : Nat} {A : Around} (h : Room k A) : A.units + 65 < cLine := by have := h.un; omega
end
end DL

/-! methods, lists made, slices with a step -/
namespace DL
open PySem PySem.Spec PyProof.Rows L2
open PySem.Builtin.Int (intBits)
section
variable {X : Cx} {W : WX} {A : Nat → Prop} {a b c ex o e : Expr} {es : List Expr} {pos p p1 p2 p3 apos cpos : Pos} {T id : String} {name : Str}
/-! ### methods of a value that is read -/
def D.ofTy (T : String) : D → Bool
  | .lst _ => T == "list"
  | .str _ => T == "str"
  | .int _ => T == "int"
  | _ => false
def eMeth (T : String) (g : D → List D → Res D) (fo : DL.Env → Res D) (fs : DL.Env → Res (List D)) : DL.Env → Res D := fun e => (fo e).bind fun d => if D.ofTy T d = true then (fs e).bind fun ds => g d ds else .bad
def MethD (X : Cx) (W : WX) (T id : String) (g : D → List D → Res D) : Prop :=
  ∃ r, MtR X id r ∧ ∀ (σ : L2.St) (H G : Hp) (x : V) (vs : List V) (dx : D) (ds : List D) (Q : VK), Sub G H → D.ofTy T dx = true → RepC X.K H G dx x → RepL X.K G ds vs →
    PostG X.K X.mg (fun c o H' => W c o σ H') H G (g dx ds) (fun d H' G' => ∀ v, Rep X.K G' d v → Q v H') → r x vs H Q
theorem ofTy_tyV {K : PySem.W.Frag} {H G : Hp} {d : D} {v : V} (h : D.ofTy T d = true) (r : RepC K H G d v) : tyV K T v H := by
  cases d with
  | lst ds =>
    have : T = "list" := by simpa [D.ofTy] using h
    obtain ⟨a, vs, rfl, s, _⟩ := r
    exact .inl ⟨this, vs, s⟩
  | str z =>
    have : T = "str" := by simpa [D.ofTy] using h
    cases (show v = .str z from r)
    exact this
  | int z =>
    have : T = "int" := by simpa [D.ofTy] using h
    cases (show v = .int z from r)
    exact this
  | _ => cases h
theorem de_meth {g : D → List D → Res D} {fo : DL.Env → Res D} {fs : DL.Env → Res (List D)} (pa : PlainAttrs T) (slot : Slot T name id) (hty : typeOf (.builtin id) = pure (.type "method_descriptor")) (hm : MethD X W T id g) (ho : DR X W A o fo) (ha : DA X W A (e :: es) fs)
    (hbase : attributeBase o name X.env (eval o X.env) = eval o X.env := by rfl)
    (hfew : ((backTo cpos (starEach (e :: es) X.env)).all (fun x => !x.1) && (backToKw cpos (keywordEach [] X.env)).all (fun x => x.1.isSome)
      && decide ((e :: es).length + ([] : List Keyword).length + (if ([] : List Keyword).isEmpty then 0 else 1) < 30)) = true := by rfl)
    (hline : (apos.endLine == cpos.line) = true := by rfl) (hs : starEach (e :: es) X.env = (false, eval e X.env) :: starEach es X.env := by rfl) (hplain : (backTo cpos (starEach es X.env)).any (·.1) = false := by rfl) :
    DE X W A (.Call (.Attribute o name apos) (e :: es) [] cpos) (eMeth T g fo fs) := by
  obtain ⟨r, m1, m2⟩ := hm
  refine (pe_bm pa slot hty m1 ho ha hbase hfew hline hs hplain).imp fun σ H Q ⟨en, G, E, q⟩ => ⟨en, G, E, q.split.imp fun d H1 G1 x1 q1 v rv => ?_⟩
  by_cases hc : D.ofTy T d = true
  · rw [if_pos hc] at q1
    exact ⟨ofTy_tyV hc rv, en, G1, E.ext x1, q1.split.imp fun ds H2 G2 x2 q2 vs rs => m2 σ H2 G2 v vs d ds Q x2.gh hc (rv.mono x2.hh x2.gg) rs q2⟩
  · rw [if_neg hc] at q1; exact q1.elim
theorem de_meth0 {g : D → List D → Res D} {fo : DL.Env → Res D} (pa : PlainAttrs T) (slot : Slot T name id) (hty : typeOf (.builtin id) = pure (.type "method_descriptor")) (hm : MethD X W T id g) (ho : DR X W A o fo)
    (hbase : attributeBase o name X.env (eval o X.env) = eval o X.env := by rfl) (hline : (apos.endLine == cpos.line) = true := by rfl) :
    DE X W A (.Call (.Attribute o name apos) [] [] cpos) (eMeth T g fo aNil) := by
  obtain ⟨r, m1, m2⟩ := hm
  refine (pe_bm0 pa slot hty m1 ho hbase hline).imp fun σ H Q ⟨en, G, E, q⟩ => ⟨en, G, E, q.split.imp fun d H1 G1 x1 q1 v rv => ?_⟩
  by_cases hc : D.ofTy T d = true
  · rw [if_pos hc] at q1
    exact ⟨ofTy_tyV hc rv, m2 σ H1 G1 v [] d [] Q x1.gh hc rv rfl q1⟩
  · rw [if_neg hc] at q1; exact q1.elim
/-- l.index(k) -/
def dIndex : D → List D → Res D := fun l ks => match l, ks with
  | .lst xs, [k] => if k.pl 50 = true ∧ D.pls xs 50 = true then (match xs.findIdx? fun z => D.beq z k with
    | some j => .ok (.int (j : Nat))
    | none => .bad) else .bad
  | _, _ => .bad
theorem pys_get : ∀ {xs : List D} {j : Nat} {x : D}, xs[j]? = some x → (D.pys xs)[j]? = some x.py
  | x :: xs, 0, _, h => by cases h; rfl
  | _ :: xs, j + 1, x, h => by
    have := pys_get (xs := xs) (j := j) (x := x) (by simpa using h)
    simpa [D.pys] using this
theorem pys_get' : ∀ {xs : List D} {j : Nat} {z : PyData}, (D.pys xs)[j]? = some z → ∃ x, xs[j]? = some x ∧ z = x.py
  | [], j, _, h => by simp [D.pys] at h
  | x :: xs, 0, _, h => by simp only [D.pys] at h; cases h; exact ⟨x, rfl, rfl⟩
  | _ :: xs, j + 1, z, h => by
    have := pys_get' (xs := xs) (j := j) (z := z) (by simpa [D.pys] using h)
    simpa using this
theorem pys_length : ∀ xs : List D, (D.pys xs).length = xs.length
  | [] => rfl
  | x :: xs => by rw [D.pys, List.length_cons, List.length_cons, pys_length xs]
theorem meth_index (hu : X.A.units + 65 < cLine) : MethD X W "list" "list.index" dIndex := by
  refine ⟨_, mt_indexD hu, fun σ H G x vs dx ds Q sg ht rx rv q => ?_⟩
  cases dx with
  | lst xs =>
    match ds, q with
    | [k], q =>
      dsimp only [dIndex] at q
      by_cases hc : k.pl 50 = true ∧ D.pls xs 50 = true
      · rw [if_pos hc] at q
        cases hf : xs.findIdx? (fun z => D.beq z k) with
        | none => rw [hf] at q; exact q.elim
        | some j =>
          rw [hf] at q
          obtain ⟨w, _, rfl, rw, e⟩ := rv
          have e : _ = [] := e
          subst e
          obtain ⟨a, us, rfl, s, r⟩ := rx
          obtain ⟨h1, h2, h3⟩ := List.findIdx?_eq_some_iff_getElem.mp hf
          refine ⟨a, w, k.py, D.pys xs, j, xs[j].py, rfl, rfl, .lst s (RepL.dp xs 50 us hc.2 (r.mono sg)), Rep.dp k 50 w hc.1 (rw.mono sg), shaped_pyL hc.2, shaped_py hc.1 (by decide), pys_get (List.getElem?_eq_getElem h1), h2, fun m z' hm hz => ?_, q.val sg rfl⟩
          obtain ⟨y, hy, rfl⟩ := pys_get' hz
          obtain ⟨hml, rfl⟩ := List.getElem?_eq_some_iff.mp hy
          have := h3 m hm
          simpa [D.beq] using this
      · rw [if_neg hc] at q; exact q.elim
  | _ => cases ht
/-! ### l.remove(k), l.insert(i, k) -/
def gRemove : List D → List D → Option (List D) := fun xs ds => match ds with
  | [k] => if k.pl 50 = true ∧ D.pls xs 50 = true then (match xs.findIdx? fun z => D.beq z k with
    | some j => some (xs.eraseIdx j)
    | none => none) else none
  | _ => none
mutual
theorem py_plain : ∀ (d : D) (n : Nat), d.pl n = true → d.py.plain = true
  | .non, n, _ => by simp [D.py, PyData.plain]
  | .bl _, n, _ => by simp [D.py, PyData.plain]
  | .int _, n, _ => by simp [D.py, PyData.plain]
  | .str _, n, _ => by simp [D.py, PyData.plain]
  | .obj _, n, h => by simp [D.pl] at h
  | .dct _ _, n, h => by simp [D.pl] at h
  | .con xs, 0, h => by simp [D.pl] at h
  | .con xs, n + 1, h => by
    simp only [D.py, PyData.plain]
    exact pys_plain xs n (by simpa [D.pl] using h)
  | .tup xs, 0, h => by simp [D.pl] at h
  | .lst xs, 0, h => by simp [D.pl] at h
  | .tup xs, n + 1, h => by
    simp only [D.py, PyData.plain]
    exact pys_plain xs n (by simpa [D.pl] using h)
  | .lst xs, n + 1, h => by
    simp only [D.py, PyData.plain]
    exact pys_plain xs n (by simpa [D.pl] using h)
theorem pys_plain : ∀ (ds : List D) (n : Nat), D.pls ds n = true → PyData.plainAll (D.pys ds) = true
  | [], n, _ => by simp [D.pys, PyData.plainAll]
  | d :: r, n, h => by
    have h' : d.pl n = true ∧ D.pls r n = true := by simpa [D.pls] using h
    simp only [D.pys, PyData.plainAll, py_plain d n h'.1, pys_plain r n h'.2, Bool.and_self]
end
def rRemD (K : PySem.W.Frag) : V → List V → Hp → VK → Prop := fun x xs H Q => ∃ (l : Addr) (vs : List V) (y : V) (d : PyData) (ds : List PyData) (j : Nat), x = .ref l ∧ xs = [y] ∧ H l = some (.lst vs) ∧ DpAll K H vs ds ∧ Dp K H y d ∧
  PyData.plainAll ds = true ∧ d.plain = true ∧ d.depth ≤ 64 ∧ SeqAt.dataPlace ds d = some j ∧ Q .non (upd H l (.lst (vs.eraseIdx j)))
theorem vals_erase {xs : List V} {us : List Value} (h : Vals xs us) : ∀ j, Vals (xs.eraseIdx j) (us.eraseIdx j) := by
  induction h with
  | nil => intro j; exact .nil
  | cons a b ih =>
    intro j
    cases j with
    | zero => exact b
    | succ j => exact .cons a (ih j)
theorem mt_remD (hu : X.A.units + 66 < cLine) : MtM X "list.remove" (rRemD X.K) := by
  intro pins s σ H x xs v us Q I rx rv h
  obtain ⟨l, vs, y, d, ds, j, rfl, rfl, hH, hd, hy, p1, p2, p3, hp, q⟩ := h
  cases rx
  obtain ⟨u, rfl, ru⟩ := rv.one
  obtain ⟨z, its, n, r, hl, e⟩ := I.lstM hH
  obtain ⟨as, ra⟩ := Dp.readsAll I ds vs its hd r
  obtain ⟨bs, rb⟩ := Dp.reads I d y u hy ru
  have hil : s.heap.IsList l its.toArray := ⟨_, e, rfl, _, rfl⟩
  have hlen : its.length = ds.length := SeqAt.ReadsAll.length ds its as ra
  obtain ⟨hj1, _, _⟩ := List.findIdx?_eq_some_iff_getElem.mp hp
  refine SeqAt.remove_list_data (xs := ds) (d := d) (bs := bs) (as := as) hil (by simpa using ra) rb p1 p2 (by have := Nat.min_le_right (PyData.depthAll ds) d.depth; omega) hp (by rw [List.size_toArray]; omega) ?_
  refine ⟨.non, _, I.lset (its' := its.eraseIdx j) (t' := s.toks) hH e ?_ (vals_erase r j) ?_, rfl, q⟩
  · have hja : j < its.toArray.size := by rw [List.size_toArray]; omega
    apply Array.toList_inj.mp
    rw [Array.toList_eraseIdxIfInBounds]
    try simp
  · have := List.length_eraseIdx_le vs j
    omega
theorem repl_erase {K : PySem.W.Frag} {G : Hp} : ∀ {ds : List D} {vs : List V}, RepL K G ds vs → ∀ j, RepL K G (ds.eraseIdx j) (vs.eraseIdx j)
  | [], _, e, j => by rw [show _ = [] from e]; exact rfl
  | d :: ds, _, ⟨v, r, e, x, y⟩, 0 => by rw [e]; exact y
  | d :: ds, _, ⟨v, r, e, x, y⟩, j + 1 => by rw [e]; exact ⟨v, _, rfl, x, repl_erase y j⟩
theorem findIdx_pys (k : D) : ∀ xs : List D, SeqAt.dataPlace (D.pys xs) k.py = xs.findIdx? fun z => D.beq z k := by
  intro xs
  unfold SeqAt.dataPlace
  induction xs with
  | nil => rfl
  | cons x xs ih =>
    rw [D.pys, List.findIdx?_cons, List.findIdx?_cons, ih]
    rfl
theorem mut_remove (hu : X.A.units + 66 < cLine) : MutL X "list.remove" gRemove := by
  refine ⟨_, mt_remD hu, fun G H a xs vs ds ws xs' Q sg ha r1 r2 hg q => ?_⟩
  match ds, hg with
  | [k], hg =>
    dsimp only [gRemove] at hg
    by_cases hc : k.pl 50 = true ∧ D.pls xs 50 = true
    · rw [if_pos hc] at hg
      cases hf : xs.findIdx? (fun z => D.beq z k) with
      | none => rw [hf] at hg; cases hg
      | some j =>
        rw [hf] at hg
        cases hg
        obtain ⟨w, _, rfl, rw, e⟩ := r2
        have e : _ = [] := e
        subst e
        refine ⟨a, vs, w, k.py, D.pys xs, j, rfl, rfl, ha, RepL.dp xs 50 vs hc.2 (r1.mono sg), Rep.dp k 50 w hc.1 (rw.mono sg), pys_plain xs 50 hc.2, py_plain k 50 hc.1, ?_, by rw [findIdx_pys]; exact hf, q _ (repl_erase r1 j)⟩
        have := (py_can k 50 hc.1).2
        omega
    · rw [if_neg hc] at hg; cases hg
def gInsert : List D → List D → Option (List D) := fun xs ds => match ds with
  | [.int i, d] => if 0 ≤ i ∧ i < 1000000 ∧ xs.length < sizeLine then some (xs.take i.toNat ++ [d] ++ xs.drop i.toNat) else none
  | _ => none
theorem mut_insert : MutL X "list.insert" gInsert := by
  refine ⟨_, mt_insert, fun G H a xs vs ds ws xs' Q sg ha r1 r2 hg q => ?_⟩
  match ds, hg with
  | [.int i, d], hg =>
    dsimp only [gInsert] at hg
    by_cases hc : 0 ≤ i ∧ i < 1000000 ∧ xs.length < sizeLine
    · rw [if_pos hc] at hg
      cases hg
      obtain ⟨w, _, rfl, rw, w2, _, rfl, rw2, e⟩ := r2
      have e : _ = [] := e
      subst e
      cases (show w = .int i from rw)
      exact ⟨a, vs, i, w2, rfl, rfl, ha, by rw [r1.length]; exact hc.2.2, hc.1, by omega, q _ (((r1.take i.toNat).append (.cons rw2 .nil)).append (r1.drop i.toNat))⟩
    · rw [if_neg hc] at hg; cases hg
/-! ### list(range(..)) -/
def RgOkB (i j : Int) : Bool := decide (-1000000000 ≤ i ∧ i ≤ 1000000000 ∧ -1000000000 ≤ j ∧ j ≤ 1000000000 ∧ (j - i).toNat ≤ 1000000)
def dRangeL : D → D → Res D
  | .int i, .int j => if RgOkB i j = true then .ok (.lst (rangeD i j)) else .bad
  | _, _ => .bad
theorem rgV_rep {K : PySem.W.Frag} {G : Hp} (i j : Int) : RepL K G (rangeD i j) (rgV i j) := by
  unfold rangeD rgV
  generalize List.range (j - i).toNat = l
  induction l with
  | nil => rfl
  | cons n l ih => exact ⟨_, _, rfl, rfl, ih⟩
theorem rgOk_of {i j : Int} (h : RgOkB i j = true) : RgOk i j := by
  have h := of_decide_eq_true h
  refine ⟨by omega, by omega, by omega, by omega, ?_⟩
  have := sizeLine_eq
  omega
def eRange1 (f : DL.Env → Res D) : DL.Env → Res D := fun e => (f e).bind fun x => dRangeL (.int 0) x
theorem df_listRg1 {f : DL.Env → Res D} (hc : X.calm = true) (hg : Gl X "list") (hm : X.mg "list" = none) (hgr : Gl X "range") (hmr : X.mg "range" = none) (ha : DE X W A a f) (na : starEach [a] X.env = (false, eval a X.env) :: starEach [] X.env := by rfl)
    (ne : starEach [.Call (.Name "range" p1) [a] [] p2] X.env = (false, eval (.Call (.Name "range" p1) [a] [] p2) X.env) :: starEach [] X.env := by rfl) :
    DF X W A (.Call (.Name "list" p) [.Call (.Name "range" p1) [a] [] p2] [] pos) (eRange1 f) :=
  (pe_listRg hc hg hm (prg_1 hgr hmr ha na) ne).imp fun σ H Q ⟨en, G, E, q⟩ => ⟨en, G, E, q.split.imp fun d H1 G1 x1 q1 v rv => by
    cases d with
    | int n =>
      have ev : v = .int n := rv
      subst ev
      dsimp only [dRangeL] at q1
      by_cases hr : RgOkB 0 n = true
      · rw [if_pos hr] at q1
        exact ⟨n, rfl, rgOk_of hr, fun l hl => q1 (upd H1 l (.lst (rgV 0 n))) G1 ⟨Sub.upd hl, Sub.refl _, x1.gh.trans (Sub.upd hl), fun b z => .inl z⟩ l (x1.hh.free hl) (x1.gh.free hl) ⟨_, upd_same, rgV_rep 0 n⟩⟩
      · rw [if_neg hr] at q1; exact q1.elim
    | _ => exact (show False from q1).elim⟩
theorem df_listRg2 {fa fb : DL.Env → Res D} (hc : X.calm = true) (hg : Gl X "list") (hm : X.mg "list" = none) (hgr : Gl X "range") (hmr : X.mg "range" = none) (ha : DE X W A a fa) (hb : DE X W A b fb) (na : starEach [a, b] X.env = (false, eval a X.env) :: starEach [b] X.env := by rfl)
    (nb : starEach [b] X.env = (false, eval b X.env) :: starEach [] X.env := by rfl) (hp : (backTo p2 (starEach [b] X.env)).any (·.1) = false := by rfl)
    (ne : starEach [.Call (.Name "range" p1) [a, b] [] p2] X.env = (false, eval (.Call (.Name "range" p1) [a, b] [] p2) X.env) :: starEach [] X.env := by rfl) :
    DF X W A (.Call (.Name "list" p) [.Call (.Name "range" p1) [a, b] [] p2] [] pos) (eOp dRangeL fa fb) :=
  (pe_listRg hc hg hm (prg_2 hgr hmr ha hb na nb hp) ne).imp fun σ H Q ⟨en, G, E, q⟩ => ⟨en, G, E, q.split.imp fun d H1 G1 x1 q1 v rv => ⟨en, G1, E.ext x1, q1.split.imp fun d2 H2 G2 x2 q2 u ru => by
    cases d with
    | int i =>
      cases d2 with
      | int j =>
        have ev : v = .int i := rv
        have eu : u = .int j := ru
        subst ev eu
        dsimp only [dRangeL] at q2
        by_cases hr : RgOkB i j = true
        · rw [if_pos hr] at q2
          exact ⟨i, j, rfl, rfl, rgOk_of hr, fun l hl => q2 (upd H2 l (.lst (rgV i j))) G2 ⟨Sub.upd hl, Sub.refl _, x2.gh.trans (Sub.upd hl), fun b z => .inl z⟩ l (x1.hh.free (x2.hh.free hl)) (x2.gh.free hl) ⟨_, upd_same, rgV_rep i j⟩⟩
        · rw [if_neg hr] at q2; exact q2.elim
      | _ => exact (show False from q2).elim
    | _ => cases d2 <;> exact (show False from q2).elim⟩⟩
/-! ### [x] * n -/
def dRep : D → D → Res D
  | .lst xs, .int k => if -1000000000 ≤ k ∧ k ≤ 1000000000 ∧ xs.length * k.toNat ≤ sizeLine then .ok (.lst (List.replicate k.toNat xs).flatten) else .bad
  | _, _ => .bad
theorem repl_flat {K : PySem.W.Frag} {G : Hp} {ds : List D} {vs : List V} (h : RepL K G ds vs) : ∀ n, RepL K G (List.replicate n ds).flatten (List.replicate n vs).flatten
  | 0 => rfl
  | n + 1 => by
    rw [List.replicate_succ, List.replicate_succ, List.flatten_cons, List.flatten_cons]
    exact h.append (repl_flat h n)
theorem df_rep {fa fb : DL.Env → Res D} (ha : DF X W A a fa) (hb : DR X W A b fb) : DF X W A (.BinOp a .Mult b pos) (eOp dRep fa fb) :=
  (pe_op op_rep ha hb).imp fun σ H Q ⟨en, G, E, q⟩ => ⟨en, G, E, q.split.imp fun d H1 G1 x1 q1 r hr gr rc => ⟨en, G1, E.ext x1, q1.split.imp fun d2 H2 G2 x2 q2 u ru => by
    cases d with
    | lst xs =>
      cases d2 with
      | int k =>
        have eu : u = .int k := ru
        subst eu
        dsimp only [dRep] at q2
        by_cases hk : -1000000000 ≤ k ∧ k ≤ 1000000000 ∧ xs.length * k.toNat ≤ sizeLine
        · rw [if_pos hk] at q2
          obtain ⟨vs, e1, r1⟩ := rc
          refine ⟨r, k, vs, rfl, rfl, x2.hh _ _ e1, by omega, by omega, by rw [r1.length]; exact hk.2.2, fun l hl => ?_⟩
          exact q2 (upd H2 l (.lst (List.replicate k.toNat vs).flatten)) G2 ⟨Sub.upd hl, Sub.refl _, x2.gh.trans (Sub.upd hl), fun b z => .inl z⟩ l (x1.hh.free (x2.hh.free hl)) (x2.gh.free hl) ⟨_, upd_same, repl_flat (r1.mono x2.gg) _⟩
        · rw [if_neg hk] at q2; exact q2.elim
      | _ => exact (show False from q2).elim
    | _ => cases d2 <;> exact (show False from q2).elim⟩⟩
end
theorem _root_.L2.Room.hu66 {k : Nat} {A : Around} (h : Room k A) : A.units + 66 < cLine := by have := h.un; omega
end DL

/-! zip and enumerate over lists and tuples, mixed -/
namespace DL
open PySem PySem.Spec PyProof.Rows L2
open PySem.Builtin.Int (intBits)
/-! ### a side: a list (false) or a tuple (true) -/
def SqB (K : PySem.W.Frag) (t : Bool) (H : Hp) (a : Addr) (vs : List V) : Prop := match t with
  | true => SqT K H a vs
  | false => SqL K H a vs
def IsB (t : Bool) (h : Heap) (a : Addr) (its : Array Value) : Prop := match t with
  | true => h.IsTuple a its
  | false => h.IsList a its
def IterB (t : Bool) (h : Heap) (it a : Addr) (i : Nat) : Prop := match t with
  | true => h.IsTupleIter it a i
  | false => h.IsListIter it a i
def iterO (t : Bool) (a : Addr) : Obj := match t with
  | true => { cls := .type "tuple_iterator", data := .fields #[.ref a, .int 0 0] }
  | false => { cls := .type "list_iterator", data := .fields #[.ref a, .int 0 0] }
theorem draws_b {prog : Program} {w : World} {A : Around} (hh : A.handled = none) (it a : Addr) (hne : a ≠ it) (its : Array Value) : ∀ t, Draws prog w A it [it, a] its.size (fun i v => its[i]? = some v) (fun i h => IterB t h it a i ∧ IsB t h a its)
  | true => Draws.tuple hh it a hne its
  | false => Draws.list hh it a hne its
theorem begins_b (a : Addr) (its : Array Value) : ∀ t, Begins (.ref a) (iterO t a) fun h => IsB t h a its
  | true => begins_tuple a its
  | false => begins_list a its
theorem sqb_is {X : Cx} {pins : List (Addr × Obj)} {σ : L2.St} {H : Hp} {s : Shared} {a : Addr} {vs : List V} (I : Inv X pins σ H s) : ∀ {t : Bool}, SqB X.K t H a vs → ∃ its : List Value, Vals vs its ∧ IsB t s.heap a its.toArray
  | true, h => let ⟨its, r, p, _⟩ := I.tuple h; ⟨its, r, p⟩
  | false, h => let ⟨its, r, p, _⟩ := I.list h; ⟨its, r, p.isList⟩
theorem iterb_obj {h : Heap} {it a : Addr} {i : Nat} : ∀ {t : Bool}, IterB t h it a i → ∃ o, h.get? it = some o ∧ ∀ v, o.data ≠ .cell v
  | true, ⟨o, e, _, d⟩ => ⟨o, e, fun v q => by rw [d] at q; cases q⟩
  | false, ⟨o, e, _, d⟩ => ⟨o, e, fun v q => by rw [d] at q; cases q⟩
theorem iterb_keep {h h' : Heap} {it a : Addr} {i : Nat} (k : ∀ o, h.get? it = some o → h'.get? it = some o) : ∀ {t : Bool}, IterB t h it a i → IterB t h' it a i
  | true, st => Heap.IsTupleIter.at st k
  | false, st => Heap.IsListIter.at st k
theorem iterb_new {h : Heap} {it a : Addr} : ∀ {t : Bool}, h.get? it = some (iterO t a) → IterB t h it a 0
  | true, e => ⟨_, e, rfl, rfl⟩
  | false, e => ⟨_, e, rfl, rfl⟩
theorem isb_lt {h : Heap} {a : Addr} {its : Array Value} : ∀ {t : Bool}, IsB t h a its → a < h.objs.size
  | true, ⟨o, e, _⟩ => Heap.lt_size e
  | false, ⟨o, e, _⟩ => Heap.lt_size e
/-! ### zip -/
def ItZ2 (K : PySem.W.Frag) (t1 t2 : Bool) (a b : Addr) (xs ys : List V) : It :=
  ⟨fun i H => SqB K t1 H a xs ∧ SqB K t2 H b ys ∧ i < xs.length ∧ i < ys.length,
    fun i H v H' => ∃ T x y, v = .ref T ∧ H T = none ∧ H' = upd H T (.tup [x, y]) ∧ xs[i]? = some x ∧ ys[i]? = some y,
    fun i H => SqB K t1 H a xs ∧ SqB K t2 H b ys ∧ i ≤ xs.length ∧ i ≤ ys.length ∧ (i = xs.length ∨ i = ys.length)⟩
def ZSt (t1 t2 : Bool) (N a b : Nat) (i : Nat) (h : Heap) : Prop :=
  IsZip h (N + 4) (N + 2) (N + 3) .none ∧ IsTupOf2 h (N + 2) (.ref N) (.ref (N + 1)) ∧ (∃ x y, IsTupOf2 h (N + 3) x y) ∧ IterB t1 h N a i ∧ IterB t2 h (N + 1) b i
theorem nn {m n : Nat} (h : @Ne Nat m n) : @Ne Addr m n := h
theorem ni {c m n : Nat} (h1 : @Ne Nat c m) (h2 : @Ne Nat c n) : @Not (@Membership.mem Addr (List Addr) _ [m, n] c) := fun h => by
  rcases List.mem_cons.mp h with e | h
  · exact h1 e
  · exact h2 (List.mem_singleton.mp h)
theorem sep_N {N a b : Nat} (ha : a < N) (hb : b < N) : ZipSep2 (N + 4) (N + 2) (N + 3) N (N + 1) [N, a] [N + 1, b] where
  TIz := nn (by omega)
  TOz := nn (by omega)
  TITO := nn (by omega)
  TIi1 := nn (by omega)
  mem1 := List.mem_cons_self
  zf1 := ni (by omega) (by omega)
  Tf1 := ni (by omega) (by omega)
  TIi2 := nn (by omega)
  mem2 := List.mem_cons_self
  zf2 := ni (by omega) (by omega)
  Tf2 := ni (by omega) (by omega)
  sep1_2 := ni (by omega) (by omega)
  sep2_1 := ni (by omega) (by omega)
theorem zst_mem {N c : Nat} (h : c ∈ [N + 4, N + 2, N + 3, N, N + 1]) : c = N + 4 ∨ c = N + 2 ∨ c = N + 3 ∨ c = N ∨ c = N + 1 := by simpa using h
theorem turn_z2 {P : Program} {w : World} {K : PySem.W.Frag} {elts : List Expr} {kk : Nat} {tpos : Pos} {N a b : Nat} {t1 t2 : Bool} {xs ys : List V} (ha : a < N) (hb : b < N) :
    Turn P w K (.Tuple elts kk tpos) (ItZ2 K t1 t2 a b xs ys) [N + 4, N + 2, N + 3, N, N + 1] (N + 4) (ZSt t1 t2 N a b) where
  mem := by simp
  obj := fun i h st c hc => by
    obtain ⟨hz, hTI, ⟨x, y, hTO⟩, e1, e2⟩ := st
    rcases zst_mem hc with q | q | q | q | q <;> subst q
    · exact ⟨_, hz, fun v q => nomatch q⟩
    · exact ⟨_, hTI, fun v q => nomatch q⟩
    · exact ⟨_, hTO, fun v q => nomatch q⟩
    · exact iterb_obj e1
    · exact iterb_obj e2
  keep := fun i h h' ⟨hz, hTI, ⟨x, y, hTO⟩, e1, e2⟩ k =>
    ⟨k _ (by simp) _ hz, k _ (by simp) _ hTI, ⟨x, y, k _ (by simp) _ hTO⟩, iterb_keep (fun o => k N (by simp) o) e1, iterb_keep (fun o => k (N + 1) (by simp) o) e2⟩
  item := by
    intro X hP hw hK hc i pins s σ H E I hf st hg
    subst hP hw hK
    obtain ⟨hz, hTI, ⟨x0, y0, hTO⟩, e1, e2⟩ := st
    obtain ⟨hx, hy, l1, l2⟩ := hg
    obtain ⟨its, r1, p1⟩ := sqb_is I hx
    obtain ⟨its2, r2, p2⟩ := sqb_is I hy
    have s1 : its.toArray.size = xs.length := by rw [List.size_toArray, r1.length]
    have s2 : its2.toArray.size = ys.length := by rw [List.size_toArray, r2.length]
    have hzl := Heap.lt_size hz
    have hTIl := Heap.lt_size hTI
    have hTOl := Heap.lt_size hTO
    refine wpAny_pyNext_zipD2_item (sep_N ha hb) (draws_b (prog := X.prog) (w := X.w) (A := X.A.in1) (I.ok.hd hc) N a (nn (by omega)) its.toArray t1) (draws_b (prog := X.prog) (w := X.w) (A := X.A.in1) (I.ok.hd hc) (N + 1) b (nn (by omega)) its2.toArray t2) hz hTI hTO ⟨e1, p1⟩ ⟨e2, p2⟩ (by omega) (by omega) fun u1 u2 h' tk q1 q2 z' TO' d1 d2 hT hsz hk => ?_
    refine ⟨_, rfl, wpAny_letOwnedTupleGo_zip (s := { s with heap := h', toks := tk }) z' fun h'' z'' sb => ?_⟩
    obtain ⟨w1, g1, rv1⟩ := r1.get (List.getElem?_eq_getElem l1)
    obtain ⟨w2, g2, rv2⟩ := r2.get (List.getElem?_eq_getElem l2)
    have ew1 : w1 = u1 := by
      rw [List.getElem?_toArray, g1] at q1
      exact Option.some.inj q1
    have ew2 : w2 = u2 := by
      rw [List.getElem?_toArray, g2] at q2
      exact Option.some.inj q2
    subst ew1 ew2
    have hT2 : h''.get? s.heap.objs.size = some { cls := .type "tuple", data := .seq #[w1, w2] } := (sb.2 _ (Nat.ne_of_gt hzl)).trans hT
    have new : ObjOk X.prog X.w (upd H s.heap.objs.size (.tup [xs[i], ys[i]])) h'' s.heap.objs.size (.tup [xs[i], ys[i]]) :=
      ⟨by show 2 ≤ sizeLine; decide, [w1, w2], .cons rv1 (.cons rv2 .nil), ⟨_, hT2, rfl, _, rfl⟩⟩
    have I1 : Inv X pins σ (upd H s.heap.objs.size (.tup [xs[i], ys[i]])) { s with heap := h'', toks := tk } :=
      I.turnedNew (t' := tk) (ch := [N + 4, N + 2, N + 3, N, N + 1]) (fun c o hn q => (sb.2 c (fun q' => hn (by simp [q']))).trans (hk c o (fun q' => hn (by simp [q'])) (fun q' => hn (by simp [q'])) (fun q' => hn (by simp [q'])) (fun q' => hn (by simp [q'])) q)) hf (Nat.le_refl _) new
    refine ⟨.ref s.heap.objs.size, _, I1, rfl, ⟨_, xs[i], ys[i], rfl, I.hok.fresh (Nat.le_refl _), rfl, List.getElem?_eq_getElem l1, List.getElem?_eq_getElem l2⟩, ⟨z'', ?_, ⟨w1, w2, ?_⟩, ?_, ?_⟩, fun c hcm => ?_⟩
    · exact (sb.2 _ (nn (by omega))).trans (hk _ _ (nn (by omega)) (nn (by omega)) (nn (by omega)) (nn (by omega)) hTI)
    · exact (sb.2 _ (nn (by omega))).trans TO'
    · exact iterb_keep (fun o q => (sb.2 _ (nn (by omega))).trans q) d1.1
    · exact iterb_keep (fun o q => (sb.2 _ (nn (by omega))).trans q) d2.1
    · have hlt : c < s.heap.objs.size := by
        rcases zst_mem hcm with q | q | q | q | q <;> (rw [q]; first | exact hzl | (refine Nat.lt_trans ?_ hzl; show (_ : Nat) < _; omega))
      rw [upd_ne (Nat.ne_of_lt hlt)]
      exact (hf c hcm).1
  done := by
    intro X hP hw hK hc i pins s σ H E I hf st hg
    subst hP hw hK
    obtain ⟨hz, hTI, ⟨x0, y0, hTO⟩, e1, e2⟩ := st
    obtain ⟨hx, hy, l1, l2, hend⟩ := hg
    obtain ⟨its, r1, p1⟩ := sqb_is I hx
    obtain ⟨its2, r2, p2⟩ := sqb_is I hy
    have s1 : its.toArray.size = xs.length := by rw [List.size_toArray, r1.length]
    have s2 : its2.toArray.size = ys.length := by rw [List.size_toArray, r2.length]
    exact wpAny_pyNext_zipD2_end (sep_N ha hb) (draws_b (prog := X.prog) (w := X.w) (A := X.A.in1) (I.ok.hd hc) N a (nn (by omega)) its.toArray t1) (draws_b (prog := X.prog) (w := X.w) (A := X.A.in1) (I.ok.hd hc) (N + 1) b (nn (by omega)) its2.toArray t2) hz hTI hTO ⟨e1, p1⟩ ⟨e2, p2⟩ (by omega) (by omega) (by omega) fun h' tk hk => ⟨rfl, I.turnedL (t' := tk) (ch := [N + 4, N + 2, N + 3, N, N + 1]) (fun c o hn q =>
      hk c o (fun q' => hn (by simp [q'])) (fun q' => hn (by simp [q'])) (fun q' => hn (by simp [q'])) (fun q' => hn (by simp [q'])) q) hf⟩
  self := fun A i s Q E st h => wpAny_pyIter_zip st.1 h
def iZ2 (K : PySem.W.Frag) (ta : TA) : TI := fun σ H R => ta σ H fun vs H1 => ∃ a b xs ys t1 t2, vs = [.ref a, .ref b] ∧ SqB K t1 H1 a xs ∧ SqB K t2 H1 b ys ∧ R (ItZ2 K t1 t2 a b xs ys) H1
theorem pi_z2 {X : Cx} {e e2 : Expr} {ta : TA} {p pos tpos : Pos} {elts : List Expr} {kk : Nat} (hg : Gl X "zip") (hm : X.mg "zip" = none) (ha : PA X [e, e2] ta)
    (hs : starEach [e, e2] X.env = (false, eval e X.env) :: starEach [e2] X.env := by rfl) (hpl : (backTo pos (starEach [e2] X.env)).any (·.1) = false := by rfl) :
    PI X (.Tuple elts kk tpos) (.Call (.Name "zip" p) [e, e2] [] pos) (iZ2 X.K ta) := by
  refine ⟨fun pins s σ H R I h => ?_⟩
  refine Call_ (ld_blt I hg hm PyProof.Rows.boot_zip (PyProof.Rows.callWith_type1 (thn (ha.run pos pins s σ H _ I h) fun us s1 ⟨vs, H1, I1, r1, q1⟩ => ?_) hs hpl))
  obtain ⟨a, b, xs, ys, t1, t2, rfl, hx, hy, q⟩ := q1
  obtain ⟨u1, u2, rfl, ru1, ru2⟩ := r1.two
  cases ru1
  cases ru2
  obtain ⟨its, rv1, p1⟩ := sqb_is I1 hx
  obtain ⟨its2, rv2, p2⟩ := sqb_is I1 hy
  refine zip_begins2 (begins_b a its.toArray t1) (begins_b b its2.toArray t2) p1 p2 fun h' hz hTI hTO h1 h2 hsz hk => wpAny_pyIter_zip hz ?_
  have I2 : Inv X pins σ H1 { s1 with heap := h' } := I1.kept (t' := s1.toks) hk
  refine ⟨s1.heap.objs.size + 4, _, ZSt t1 t2 s1.heap.objs.size a b, _, H1, rfl, I2, turn_z2 (isb_lt p1) (isb_lt p2), ⟨hz, hTI, ⟨_, _, hTO⟩, iterb_new h1, iterb_new h2⟩, fun c hcm => ?_, q⟩
  have hle : s1.heap.objs.size ≤ c := by
    rcases zst_mem hcm with z | z | z | z | z <;> (rw [z]; first | exact Nat.le_refl _ | exact Nat.le_add_right _ _)
  exact I1.fpOk hle (I1.hok.fresh hle)
/-- pairs of two lists' items -/
def zipT : List D → List D → List D
  | x :: xs, y :: ys => .tup [x, y] :: zipT xs ys
  | _, _ => []
theorem zipT_length : ∀ xs ys : List D, (zipT xs ys).length = min xs.length ys.length
  | [], _ => by simp [zipT]
  | _ :: _, [] => by simp [zipT]
  | x :: xs, y :: ys => by
    rw [zipT, List.length_cons, List.length_cons, List.length_cons, zipT_length xs ys]
    omega
theorem zipT_get : ∀ {xs ys : List D} {i : Nat} {x y : D}, xs[i]? = some x → ys[i]? = some y → (zipT xs ys)[i]? = some (.tup [x, y])
  | x :: xs, y :: ys, 0, _, _, h1, h2 => by cases h1; cases h2; rfl
  | x :: xs, y :: ys, i + 1, _, _, h1, h2 => by
    have := zipT_get (xs := xs) (ys := ys) (i := i) (by simpa using h1) (by simpa using h2)
    simpa [zipT] using this
  | [], _, i, _, _, h1, _ => by simp at h1
  | _ :: _, [], i, _, _, _, h2 => by simp at h2
theorem walk_z2 {K : PySem.W.Frag} {B G : Hp} {a b : Addr} {t1 t2 : Bool} {ds es : List D} {xs ys : List V} (h1 : SqB K t1 B a xs) (h2 : SqB K t2 B b ys) (r1 : RepL K G ds xs) (r2 : RepL K G es ys) : WalkOf K (ItZ2 K t1 t2 a b xs ys) (zipT ds es) B G := by
  have up : ∀ {t : Bool} {c : Addr} {vs : List V} {H : Hp}, Sub B H → SqB K t B c vs → SqB K t H c vs := fun {t c vs H} s h => by
    cases t with
    | true => exact s.sqt h
    | false => exact s.sql h
  have e1 := r1.length
  have e2 := r2.length
  refine ⟨fun H i s hi => ?_, fun H s => ?_, fun H G2 i x H' s g g2 hi y => ?_⟩
  · rw [zipT_length] at hi
    exact ⟨up s h1, up s h2, by omega, by omega⟩
  · rw [zipT_length]
    exact ⟨up s h1, up s h2, by omega, by omega, by omega⟩
  · obtain ⟨T, v1, v2, rfl, hT, rfl, g1, g3⟩ := y
    obtain ⟨d1, k1, k2⟩ := r1.get' g1
    obtain ⟨d2, k3, k4⟩ := r2.get' g3
    refine ⟨.tup [d1, d2], upd G2 T (.tup [v1, v2]), zipT_get k1 k3, Ext.laid g2 hT, T, [v1, v2], rfl, upd_same, ?_⟩
    have up2 : Sub G (upd G2 T (.tup [v1, v2])) := g.trans (Sub.upd (g2.free hT))
    exact .cons (k2.mono up2) (.cons (k4.mono up2) .nil)
def seqOf : D → Option (List D)
  | .lst xs => some xs
  | .tup xs => some xs
  | .con xs => some xs
  | _ => none
theorem seqOf_rep {K : PySem.W.Frag} {H G : Hp} {d : D} {v : V} {xs : List D} (sg : Sub G H) (h : seqOf d = some xs) (r : Rep K G d v) : ∃ a t vs, v = .ref a ∧ SqB K t H a vs ∧ RepL K G xs vs := by
  cases d with
  | lst ys => cases h; obtain ⟨a, vs, rfl, s, q⟩ := r; exact ⟨a, false, vs, rfl, sg.sql s, q⟩
  | tup ys => cases h; obtain ⟨a, vs, rfl, s, q⟩ := r; exact ⟨a, true, vs, rfl, sg.pt s, q⟩
  | con ys => cases h; obtain ⟨a, vs, rfl, s, q⟩ := r; exact ⟨a, true, vs, rfl, sg.sqt s, q⟩
  | _ => cases h
def iZip (fs : DL.Env → Res (List D)) : DL.Env → Res (List D) := fun e => (fs e).bind fun ds => match ds with
  | [x, y] => (match seqOf x, seqOf y with
    | some xs, some ys => .ok (zipT xs ys)
    | _, _ => .bad)
  | _ => .bad
section
variable {X : Cx} {W : WX} {A : Nat → Prop} {a b : Expr} {p pos tpos : Pos} {elts : List Expr} {kk : Nat}
theorem di_zip {fs : DL.Env → Res (List D)} (hg : Gl X "zip") (hm : X.mg "zip" = none) (ha : DA X W A [a, b] fs)
    (hs : starEach [a, b] X.env = (false, eval a X.env) :: starEach [b] X.env := by rfl) (hpl : (backTo pos (starEach [b] X.env)).any (·.1) = false := by rfl) : DI X W A (.Tuple elts kk tpos) (.Call (.Name "zip" p) [a, b] [] pos) (iZip fs) :=
  (pi_z2 hg hm ha hs hpl).imp fun σ H Q ⟨e, G, E, q⟩ => ⟨e, G, E, q.split.imp fun ds H1 G1 x1 q1 vs rs => by
    match ds, q1 with
    | [x, y], q1 =>
      dsimp only at q1
      cases hx : seqOf x with
      | none => rw [hx] at q1; exact q1.elim
      | some xs =>
        cases hy : seqOf y with
        | none => rw [hx, hy] at q1; exact q1.elim
        | some ys =>
          rw [hx, hy] at q1
          obtain ⟨v1, _, rfl, rv1, v2, _, rfl, rv2, e0⟩ := rs
          have e0 : _ = [] := e0
          subst e0
          obtain ⟨c1, t1, us1, rfl, s1, k1⟩ := seqOf_rep (Sub.refl G1) hx rv1
          obtain ⟨c2, t2, us2, rfl, s2, k2⟩ := seqOf_rep (Sub.refl G1) hy rv2
          have up : ∀ {t : Bool} {c : Addr} {vs : List V}, SqB X.K t G1 c vs → SqB X.K t H1 c vs := fun {t c vs} h => by
            cases t with
            | true => exact x1.gh.sqt h
            | false => exact x1.gh.sql h
          exact ⟨c1, c2, us1, us2, t1, t2, rfl, up s1, up s2, q1.here x1.gh _ (walk_z2 s1 s2 k1 k2)⟩⟩
end
end DL

/-! enumerate over a list or a tuple; slices with a step -/
namespace DL
open PySem PySem.Spec PyProof.Rows L2
open PySem.Builtin.Int (intBits)
def ItE2 (K : PySem.W.Frag) (t : Bool) (a : Addr) (xs : List V) : It :=
  ⟨fun i H => SqB K t H a xs ∧ i < xs.length,
    fun i H v H' => ∃ T x, v = .ref T ∧ H T = none ∧ H' = upd H T (.tup [.int (i : Nat), x]) ∧ xs[i]? = some x,
    fun i H => SqB K t H a xs ∧ i = xs.length⟩
def ESt (t : Bool) (N a : Nat) (i : Nat) (h : Heap) : Prop := (∃ old, IsEnum h (N + 1) N ((i : Nat) : Int) old) ∧ IterB t h N a i
theorem est_mem {N c : Nat} (h : c ∈ [N + 1, N]) : c = N + 1 ∨ c = N := by simpa using h
theorem turn_e2 {P : Program} {w : World} {K : PySem.W.Frag} {elts : List Expr} {kk : Nat} {tpos : Pos} {N a : Nat} {t : Bool} {xs : List V} (ha : a < N) :
    Turn P w K (.Tuple elts kk tpos) (ItE2 K t a xs) [N + 1, N] (N + 1) (ESt t N a) where
  mem := by simp
  obj := fun i h st c hc => by
    obtain ⟨⟨old, he⟩, e1⟩ := st
    rcases est_mem hc with q | q <;> subst q
    · exact ⟨_, he, fun v q => nomatch q⟩
    · exact iterb_obj e1
  keep := fun i h h' ⟨⟨old, he⟩, e1⟩ k => ⟨⟨old, k _ (by simp) _ he⟩, iterb_keep (fun o => k N (by simp) o) e1⟩
  item := by
    intro X hP hw hK hc i pins s σ H E I hf st hg
    subst hP hw hK
    obtain ⟨⟨old, he⟩, e1⟩ := st
    obtain ⟨hx, l1⟩ := hg
    obtain ⟨its, r1, p1⟩ := sqb_is I hx
    have s1 : its.toArray.size = xs.length := by rw [List.size_toArray, r1.length]
    have hel := Heap.lt_size he
    refine wpAny_pyNext_enum_itemC (draws_b (prog := X.prog) (w := X.w) (A := X.A.in1) (I.ok.hd hc) N a (nn (by omega)) its.toArray t) he ⟨e1, p1⟩ (by omega) (nn (by omega)) (ni (by omega) (by omega)) fun u1 h' tk q1 ho d1 hT hsz hk => ?_
    refine ⟨_, rfl, wpAny_letOwnedTupleGo_enum (s := { s with heap := h', toks := tk + 1 }) ho fun h'' he' sb => ?_⟩
    obtain ⟨w1, g1, rv1⟩ := r1.get (List.getElem?_eq_getElem l1)
    have ew1 : w1 = u1 := by
      rw [List.getElem?_toArray, g1] at q1
      exact Option.some.inj q1
    subst ew1
    have hT2 : h''.get? s.heap.objs.size = some { cls := .type "tuple", data := .seq #[.int i tk, w1] } := (sb.2 _ (Nat.ne_of_gt hel)).trans hT
    have new : ObjOk X.prog X.w (upd H s.heap.objs.size (.tup [.int (i : Nat), xs[i]])) h'' s.heap.objs.size (.tup [.int (i : Nat), xs[i]]) :=
      ⟨by show 2 ≤ sizeLine; decide, [.int i tk, w1], .cons ⟨_, rfl⟩ (.cons rv1 .nil), ⟨_, hT2, rfl, _, rfl⟩⟩
    have I1 : Inv X pins σ (upd H s.heap.objs.size (.tup [.int (i : Nat), xs[i]])) { s with heap := h'', toks := tk + 1 } :=
      I.turnedNew (t' := tk + 1) (ch := [N + 1, N]) (fun c o hn q => (sb.2 c (fun q' => hn (by simp [q']))).trans (hk c o (fun q' => hn (by simp [q'])) (fun q' => hn (by simp [q'])) q)) hf (Nat.le_refl _) new
    refine ⟨.ref s.heap.objs.size, _, I1, rfl, ⟨_, xs[i], rfl, I.hok.fresh (Nat.le_refl _), rfl, List.getElem?_eq_getElem l1⟩, ⟨⟨w1, ?_⟩, ?_⟩, fun c hcm => ?_⟩
    · have e2 : ((i + 1 : Nat) : Int) = (i : Int) + 1 := by omega
      rw [e2]
      exact he'
    · exact iterb_keep (fun o q => (sb.2 _ (nn (by omega))).trans q) d1.1
    · have hlt : c < s.heap.objs.size := by
        rcases est_mem hcm with q | q <;> (rw [q]; first | exact hel | (refine Nat.lt_trans ?_ hel; show (_ : Nat) < _; omega))
      rw [upd_ne (Nat.ne_of_lt hlt)]
      exact (hf c hcm).1
  done := by
    intro X hP hw hK hc i pins s σ H E I hf st hg
    subst hP hw hK
    obtain ⟨⟨old, he⟩, e1⟩ := st
    obtain ⟨hx, l1⟩ := hg
    obtain ⟨its, r1, p1⟩ := sqb_is I hx
    have s1 : its.toArray.size = i := by
      rw [List.size_toArray, ← r1.length]; exact l1.symm
    have D := draws_b (prog := X.prog) (w := X.w) (A := X.A.in1) (I.ok.hd hc) N a (nn (by omega)) its.toArray t
    rw [s1] at D
    exact wpAny_pyNext_enum_endD D he ⟨e1, p1⟩ fun h' hk => ⟨rfl, I.turnedL (t' := s.toks) (ch := [N + 1, N]) (fun c o hn q => hk c o (fun q' => hn (by simp [q'])) q) hf⟩
  self := fun A i s Q E st h => by
    obtain ⟨⟨old, he⟩, _⟩ := st
    exact wpAny_pyIter_enum he h
theorem meets_enum1 {v : Value} {o : Obj} {H : Heap → Prop} (B : Begins v o H) :
    Meets (Builtin.«enumerate.__new__» ⟨[.type "enumerate", v], []⟩) (fun _ R s => H s.heap ∧
      R (.ok (.ret (.ref (s.heap.push o).objs.size))) { s with heap := (s.heap.push o).push { cls := .type "enumerate", data := .fields #[.none, .bool false, .ref s.heap.objs.size, rawInt 0, .none, .none] } }) :=
  .of_wp fun prog w A R s h => by
    obtain ⟨hp, g, d, tk, os⟩ := s
    obtain ⟨h1, h⟩ := h
    have sb := sub_enumerate
    have it : ∀ {A' : Around} {E : Value → Shared → Prop} {Q : Value → Shared → Prop}, Q (.ref hp.objs.size) ⟨hp.push o, g, d, tk, os⟩ → wpAny (model prog w) A' (pyIter v) Q E ⟨hp, g, d, tk, os⟩ := fun q => B.iter prog w _ _ ⟨hp, g, d, tk, os⟩ _ h1 q
    wp_walk using it
    refine wpAny_stack_any fun st => wpAny_pure ?_
    split
    · rename_i c _ _ _ _ _
      cases (c == Value.type "enumerate") <;> (wp_walk using it; exact ⟨_, rfl, h⟩)
    · wp_walk using it
      exact ⟨_, rfl, h⟩
theorem enum_begin1 {prog : Program} {w : World} {A : Around} {E : Value → Shared → Prop} {s : Shared} {v : Value} {o : Obj} {H : Heap → Prop} {Q : Value → Shared → Prop} (B : Begins v o H) (h1 : H s.heap)
    (h : ∀ h', IsEnum h' (s.heap.objs.size + 1) s.heap.objs.size 0 .none → h'.get? s.heap.objs.size = some o → (∀ b o, s.heap.get? b = some o → h'.get? b = some o) → Q (.ref (s.heap.objs.size + 1)) { s with heap := h' }) :
    wpAny (model prog w) A (call (.type "enumerate") [v]) Q E s := by
  refine callType_new F.called_enumerate (by decide) (F.typeCall_enumerate_1 _) (F.newCall_enumerate_1 _) (fun obj => F.args_object_init_2 obj _) F.entry_enumerate_new (meets_enum1 B) ⟨h1, ?_⟩
  have hz : (s.heap.push o).objs.size = s.heap.objs.size + 1 := Heap.size_push ..
  show _ ∧ _
  rw [hz]
  have he := Heap.get?_push_size (s.heap.push o) (o := { cls := .type "enumerate", data := .fields #[.none, .bool false, .ref s.heap.objs.size, rawInt 0, .none, .none] }) rfl
  rw [hz] at he
  exact ⟨⟨_, he, rfl⟩, h _ he (Heap.get?_push_of_some _ (Heap.get?_push_size _ B.free)) fun b o' x => Heap.get?_push_of_some _ (Heap.get?_push_of_some _ x)⟩
def iE2 (K : PySem.W.Frag) (ta : TA) : TI := fun σ H R => ta σ H fun vs H1 => ∃ a xs t, vs = [.ref a] ∧ SqB K t H1 a xs ∧ R (ItE2 K t a xs) H1
theorem pi_e2 {X : Cx} {e : Expr} {ta : TA} {p pos tpos : Pos} {elts : List Expr} {kk : Nat} (hg : Gl X "enumerate") (hm : X.mg "enumerate" = none) (ha : PA X [e] ta) (hs : starEach [e] X.env = [(false, eval e X.env)] := by rfl) :
    PI X (.Tuple elts kk tpos) (.Call (.Name "enumerate" p) [e] [] pos) (iE2 X.K ta) := by
  refine ⟨fun pins s σ H R I h => ?_⟩
  refine Call_ (ld_blt I hg hm boot_enumerate (PyProof.Rows.callWith_type1 (thn (ha.run pos pins s σ H _ I h) fun us s1 ⟨vs, H1, I1, r1, q1⟩ => ?_) hs rfl))
  obtain ⟨a, xs, t, rfl, hx, q⟩ := q1
  obtain ⟨u1, rfl, ru1⟩ := r1.one
  cases ru1
  obtain ⟨its, rv1, p1⟩ := sqb_is I1 hx
  refine enum_begin1 (begins_b a its.toArray t) p1 fun h' he h1 hk => wpAny_pyIter_enum he ?_
  have I2 : Inv X pins σ H1 { s1 with heap := h' } := I1.kept (t' := s1.toks) hk
  refine ⟨s1.heap.objs.size + 1, _, ESt t s1.heap.objs.size a, _, H1, rfl, I2, turn_e2 (isb_lt p1), ⟨⟨_, he⟩, iterb_new h1⟩, fun c hcm => ?_, q⟩
  have hle : s1.heap.objs.size ≤ c := by
    rcases est_mem hcm with z | z <;> (rw [z]; first | exact Nat.le_refl _ | exact Nat.le_add_right _ _)
  exact I1.fpOk hle (I1.hok.fresh hle)
/-- pairs of a place and an item -/
def enumT : Nat → List D → List D
  | _, [] => []
  | n, x :: xs => .tup [.int (n : Nat), x] :: enumT (n + 1) xs
theorem enumT_length : ∀ (n : Nat) (xs : List D), (enumT n xs).length = xs.length
  | _, [] => rfl
  | n, x :: xs => by rw [enumT, List.length_cons, List.length_cons, enumT_length (n + 1) xs]
theorem enumT_get : ∀ {xs : List D} {n i : Nat} {x : D}, xs[i]? = some x → (enumT n xs)[i]? = some (.tup [.int ((n + i : Nat) : Int), x])
  | x :: xs, n, 0, _, h => by cases h; rfl
  | x :: xs, n, i + 1, _, h => by
    have := enumT_get (xs := xs) (n := n + 1) (i := i) (by simpa using h)
    rw [enumT, List.getElem?_cons_succ, this, Nat.add_assoc, Nat.add_comm 1 i]
  | [], _, i, _, h => by simp at h
theorem walk_e2 {K : PySem.W.Frag} {B G : Hp} {a : Addr} {t : Bool} {ds : List D} {xs : List V} (h1 : SqB K t B a xs) (r1 : RepL K G ds xs) : WalkOf K (ItE2 K t a xs) (enumT 0 ds) B G := by
  have up : ∀ {t : Bool} {c : Addr} {vs : List V} {H : Hp}, Sub B H → SqB K t B c vs → SqB K t H c vs := fun {t c vs H} s h => by
    cases t with
    | true => exact s.sqt h
    | false => exact s.sql h
  have e1 := r1.length
  refine ⟨fun H i s hi => ?_, fun H s => ?_, fun H G2 i x H' s g g2 hi y => ?_⟩
  · rw [enumT_length] at hi
    exact ⟨up s h1, by omega⟩
  · rw [enumT_length]
    exact ⟨up s h1, by omega⟩
  · obtain ⟨T, v1, rfl, hT, rfl, g1⟩ := y
    obtain ⟨d1, k1, k2⟩ := r1.get' g1
    have hg := enumT_get (n := 0) k1
    rw [Nat.zero_add] at hg
    refine ⟨.tup [.int (i : Nat), d1], upd G2 T (.tup [.int (i : Nat), v1]), hg, Ext.laid g2 hT, T, [.int (i : Nat), v1], rfl, upd_same, ?_⟩
    have up2 : Sub G (upd G2 T (.tup [.int (i : Nat), v1])) := g.trans (Sub.upd (g2.free hT))
    exact .cons rfl (.cons (k2.mono up2) .nil)
def iEnum (f : DL.Env → Res D) : DL.Env → Res (List D) := fun e => (f e).bind fun x => match seqOf x with
  | some xs => .ok (enumT 0 xs)
  | none => .bad
section
variable {X : Cx} {W : WX} {A : Nat → Prop} {a b c ex : Expr} {lo hi : Option Expr} {p p2 p3 pos tpos : Pos} {elts : List Expr} {kk : Nat}
theorem di_enum {f : DL.Env → Res D} (hg : Gl X "enumerate") (hm : X.mg "enumerate" = none) (ha : DE X W A a f) (hs : starEach [a] X.env = [(false, eval a X.env)] := by rfl) (he : starEach (a :: []) X.env = (false, eval a X.env) :: starEach [] X.env := by rfl) :
    DI X W A (.Tuple elts kk tpos) (.Call (.Name "enumerate" p) [a] [] pos) (iEnum f) :=
  (pi_e2 hg hm (pa_cons ha pa_nil he) hs).imp fun σ H Q ⟨e, G, E, q⟩ => ⟨e, G, E, q.split.imp fun d H1 G1 x1 q1 v rv => by
    cases hx : seqOf d with
    | none => rw [hx] at q1; exact q1.elim
    | some xs =>
      rw [hx] at q1
      obtain ⟨c1, t1, us1, rfl, s1, k1⟩ := seqOf_rep (Sub.refl G1) hx rv
      have up : ∀ {t : Bool} {c : Addr} {vs : List V}, SqB X.K t G1 c vs → SqB X.K t H1 c vs := fun {t c vs} h => by
        cases t with
        | true => exact x1.gh.sqt h
        | false => exact x1.gh.sql h
      exact ⟨c1, us1, t1, rfl, up s1, q1.here x1.gh _ (walk_e2 s1 k1)⟩⟩
/-! ### xs[lo:hi:step] -/
def pickL {α : Type} (xs : List α) (lo hi st : Option Int) : List α := (sliceRange (sliceBounds lo hi st xs.length).1 (sliceBounds lo hi st xs.length).2.1 (sliceBounds lo hi st xs.length).2.2).filterMap (xs[·]?)
theorem pick_arr (its : List Value) (lo hi st : Option Int) : slicePick its.toArray lo hi st = (pickL its lo hi st).toArray := by
  unfold slicePick pickL
  simp
theorem vals_pick {xs : List V} {us : List Value} (h : Vals xs us) (lo hi st : Option Int) : Vals (pickL xs lo hi st) (pickL us lo hi st) := by
  unfold pickL
  rw [h.length]
  generalize sliceRange _ _ _ = l
  induction l with
  | nil => exact .nil
  | cons i l ih =>
    rw [List.filterMap_cons, List.filterMap_cons]
    cases hx : xs[i]? with
    | none =>
      have : us[i]? = none := by
        rw [List.getElem?_eq_none_iff] at hx ⊢
        rw [← h.length]; exact hx
      rw [this]
      exact ih
    | some x =>
      obtain ⟨u, hu, ru⟩ := h.get hx
      rw [hu]
      exact .cons ru ih
theorem repl_pick {K : PySem.W.Frag} {G : Hp} {ds : List D} {vs : List V} (h : RepL K G ds vs) (lo hi st : Option Int) : RepL K G (pickL ds lo hi st) (pickL vs lo hi st) := by
  unfold pickL
  rw [h.length]
  generalize sliceRange _ _ _ = l
  induction l with
  | nil => rfl
  | cons i l ih =>
    rw [List.filterMap_cons, List.filterMap_cons]
    cases hx : ds[i]? with
    | none =>
      have : vs[i]? = none := by
        rw [List.getElem?_eq_none_iff] at hx ⊢
        rw [h.length]; exact hx
      rw [this]
      exact ih
    | some x =>
      obtain ⟨u, hu, ru⟩ := h.get hx
      rw [hu]
      exact .cons ru ih
theorem pick_le {α : Type} (xs : List α) (lo hi st : Option Int) : (pickL xs lo hi st).length ≤ xs.length := by
  have h := slicePick_size_le ((xs.map fun _ => Value.none).toArray) lo hi st
  rw [pick_arr, List.size_toArray, List.size_toArray, List.length_map] at h
  have e : (pickL (xs.map fun _ => Value.none) lo hi st).length = (pickL xs lo hi st).length := by
    unfold pickL
    rw [List.length_map]
    generalize sliceRange _ _ _ = l
    induction l with
    | nil => rfl
    | cons i l ih =>
      rw [List.filterMap_cons, List.filterMap_cons, List.getElem?_map]
      cases xs[i]? with
      | none => exact ih
      | some x => simpa using ih
  omega
def tSlS (K : PySem.W.Frag) (te : TE) (tl th tc : TO) : TE := fun σ H Q => te σ H fun x H1 => tl σ H1 fun l H2 => th σ H2 fun u H3 => tc σ H3 fun z H4 => ∃ a xs k, x = .ref a ∧ z = some k ∧ k ≠ 0 ∧ SqL K H4 a xs ∧
  ∀ q, H4 q = none → Q (.ref q) (upd H4 q (.lst (pickL xs l u (some k))))
theorem pe_sliceS {e c : Expr} {te : TE} {tl th tc : TO} (he : PE X e te) (hl : PO X lo tl) (hu : PO X hi th) (hc : PO X (some c) tc) : PE X (.Subscript e (.Slice lo hi (some c) p2) pos) (tSlS X.K te tl th tc) := by
  refine ⟨fun pins s σ H Q I h => ?_⟩
  refine Subscript_ (thn (he.run pins s σ H _ I h) fun v s1 ⟨x, H1, I1, r1, q1⟩ => ?_)
  refine wpAny_Slice (thn (hl.run pins s1 σ H1 _ I1 q1) fun vl s2 ⟨l, H2, I2, pl, q2⟩ => thn (hu.run pins s2 σ H2 _ I2 q2) fun vu s3 ⟨u, H3, I3, pu, q3⟩ => ?_)
  refine thn (hc.run pins s3 σ H3 _ I3 q3) fun vs s4 ⟨o, H4, I4, ps, a, xs, k, ex, eo, hk, hx, q⟩ => ?_
  subst ex eo
  cases r1
  have I5 : Inv X pins σ H4 { s4 with heap := s4.heap.push { cls := .type "slice", data := .fields #[vl, vu, vs] } } := I4.kept (t' := s4.toks) fun b ob q => Heap.get?_push_of_some _ q
  obtain ⟨its, r, ht, hz⟩ := I5.list hx
  have hlen := r.length
  show wpAny (model X.prog X.w) X.A (subscriptTail e (.Slice lo hi (some c) p2) (.ref a) (.ref s4.heap.objs.size)) (EP X pins σ Q) X.xe { s4 with heap := s4.heap.push { cls := .type "slice", data := .fields #[vl, vu, vs] } }
  refine tail_any (ops := [.ref a, .ref s4.heap.objs.size]) ht.isList.typeIs (PySem.slot_list_getitem.lookup) ?_ (by with_unfolding_all rfl)
  refine wpAny_getItem_list_slice ht.isList (Heap.IsSliceOf.new _ vl vu vs) pl pu ps (fun e0 => hk (Option.some.inj e0)) ?_ (by rw [List.size_toArray]; omega)
  rw [pick_arr]
  refine ⟨.ref _, _, I5.laid (t' := s4.toks) (o := .lst (pickL xs l u (some k))) (fun b ob q => Heap.get?_push_of_some _ q) (Nat.le_refl _) ?_, rfl, q _ (I5.hok.fresh (Nat.le_refl _))⟩
  exact ⟨Nat.le_trans (pick_le _ _ _ _) hz, _, 0, vals_pick r l u (some k), Heap.get?_push_size _ rfl⟩
/-- xs[lo:hi:k] of a list -/
def eCutS (f : DL.Env → Res D) (fl fh fk : DL.Env → Res (Option Int)) : DL.Env → Res D := fun e => (f e).bind fun d => (fl e).bind fun lo => (fh e).bind fun hi => (fk e).bind fun k => match d, k with
  | .lst xs, some k => if k = 0 then .bad else .ok (.lst (pickL xs lo hi (some k)))
  | _, _ => .bad
theorem de_cutS {f : DL.Env → Res D} {fl fh fk : DL.Env → Res (Option Int)} (ha : DR X W A a f) (hl : DO X W A lo fl) (hh : DO X W A hi fh) (hk : DO X W A (some c) fk) : DE X W A (.Subscript a (.Slice lo hi (some c) p2) pos) (eCutS f fl fh fk) :=
  (pe_sliceS ha hl hh hk).imp fun σ H Q ⟨e, G, E, p⟩ => ⟨e, G, E, p.split.imp fun d H1 G1 x1 p1 v rv => ⟨e, G1, E.ext x1, p1.split.imp fun l H2 G2 x2 p2 => ⟨e, G2, (E.ext x1).ext x2, p2.split.imp fun u H3 G3 x3 p3 => ⟨e, G3, ((E.ext x1).ext x2).ext x3, p3.split.imp fun z H4 G4 x4 p4 => by
    have rv := ((rv.mono x2.hh x2.gg).mono x3.hh x3.gg).mono x4.hh x4.gg
    have sg := x4.gh
    cases d with
    | lst ds =>
      cases z with
      | none => exact (show False from p4).elim
      | some k =>
        obtain ⟨q, vs, eq, s, r⟩ := rv
        by_cases k0 : k = 0
        · rw [show (match D.lst ds, some k with | .lst xs, some k => if k = 0 then Res.bad else .ok (.lst (pickL xs l u (some k))) | _, _ => .bad) = (Res.bad : Res D) from if_pos k0] at p4
          exact p4.elim
        · have e5 : (if k = 0 then Res.bad else Res.ok (D.lst (pickL ds l u (some k)))) = Res.ok (D.lst (pickL ds l u (some k))) := if_neg k0
          have p5 : PostG X.K X.mg _ H4 G4 (if k = 0 then Res.bad else Res.ok (D.lst (pickL ds l u (some k)))) _ := p4
          rw [e5] at p5
          refine ⟨q, vs, k, eq, rfl, k0, s, fun q2 hq => ?_⟩
          exact p5 _ _ (Ext.laid sg hq) _ ⟨q2, _, rfl, SqL.of upd_same, (repl_pick r l u (some k)).mono (Sub.upd (sg.free hq))⟩
    | _ => exact (show False by cases z <;> exact p4).elim⟩⟩⟩⟩
end
end DL

/-! list(reversed(l)) -/
namespace DL
open PySem PySem.Spec PyProof.Rows L2 RT
open PySem.Builtin.Int (intBits)
section
variable {prog : Program} {w : World} {A : Around} {E : Value → Shared → Prop} {s : Shared}
theorem rev_extend {R : Result → Shared → Prop} {it l S : Addr} {items : Array Value} {res : Value} {c₀ : Nat} (hh : A.handled = none) (hit : s.heap.IsRevIter it l ((items.size : Int) - 1)) (hl : s.heap.IsList l items) (hne : l ≠ it) (hSi : S ≠ it) (hSl : S ≠ l) (hn : items.size ≤ sizeLine)
    (hS : s.heap.get? S = some { cls := .type "list", data := .seq #[] c₀ })
    (hR : ∀ h' tk acc' c', (∀ b o, b ≠ S → b ≠ it → s.heap.get? b = some o → h'.get? b = some o) → h'.get? S = some { cls := .type "list", dict := none, data := .seq acc' c', slots := #[] } → ItemsOf (fun i v => items[items.size - 1 - i]? = some v) acc' items.size → R (.ok (.ret res)) { s with heap := h', toks := tk }) :
    wpAny (model prog w) A.in1 (Builtin.List.listExtendWith (.ref S) (.ref it) res)
      (fun fin s' => match fin with | .done f => R (.ok f) s' | .again c' => c'.quiet = true ∧ codeAny (model prog w) A c' R s') (fun e s' => R (.error e) s') s := by
  have W := (Walks.listRev (prog := prog) (w := w) (A := A.in1) hh it l hne items).toS
  have hSf : S ∉ [it, l] := by simp only [List.mem_cons, List.not_mem_nil, or_false, not_or]; exact ⟨hSi, hSl⟩
  have hT : s.TypeIs (.ref it) "list_reverseiterator" := Heap.IsRevIter.typeIs hit
  have h1 : Builtin.List.listSameRef (.ref S) (.ref it) = false := by simp [Builtin.List.listSameRef, hSi]
  unfold Builtin.List.listExtendWith
  refine wpAny_bind (wpAny_typeOf hT ?_)
  rw [if_neg (by rw [h1]; decide)]
  refine wpAny_bind (wpAny_pyIter_revIter hit ?_)
  refine wpAny_bind (wpAny_holding ?_)
  unfold Builtin.List.listLengthHint
  refine wpAny_bind (wpAny_specialOf hT nolen_lri ?_)
  show wpAny _ A.in1 (specialOf (Value.ref it) (Str.ofString "__length_hint__") >>= _) _ _ _
  refine wpAny_bind (wpAny_specialOf hT hint_lri ?_)
  generalize hid : ("list_reverseiterator.__length_hint__" : String) = id0
  wp_delta
  rw [show splitId id0 = some ("list_reverseiterator", "__length_hint__") from by subst hid; decide +kernel]
  subst hid
  refine wpAny_bind (wpAny_isInstance (b := true) hT (by rw [isSubtype_type]; kernel_rfl) ?_)
  refine wpAny_pure ?_
  rw [if_neg (by decide)]
  have e0 : ((items.size : Nat) : Int) - 1 - ((0 : Nat) : Int) = (items.size : Int) - 1 := by omega
  refine wpAny_pure ⟨plainId_quiet F.plain_extend_loop _, codeAny_extend_loopS W hn _ hSf _ items.size 0 _ _ _ rfl (Nat.zero_le _) ⟨Nat.zero_le _, by rw [e0]; exact hit, hl⟩ hS (ItemsOf.nil _) fun s' acc' c' hm hS' hacc => ?_⟩
  rw [Moved.eq_with hm]
  refine hR s'.heap s'.toks acc' c' (fun b o hb hb2 e => hm.heap b o (fun hmem => ?_) e) hS' hacc
  rcases List.mem_cons.mp hmem with e' | hmem
  · exact hb e'
  · exact hb2 (List.mem_singleton.mp hmem)
theorem call_list_rev {it l : Addr} {items : Array Value} {Q : Value → Shared → Prop} (hh : A.handled = none) (hit : s.heap.IsRevIter it l ((items.size : Int) - 1)) (hl : s.heap.IsList l items) (hne : l ≠ it) (hn : items.size ≤ sizeLine)
    (hQ : ∀ h' tk acc c', (∀ b o, b ≠ it → s.heap.get? b = some o → h'.get? b = some o) → h'.get? s.heap.objs.size = some { cls := .type "list", dict := none, data := .seq acc c', slots := #[] } → ItemsOf (fun i v => items[items.size - 1 - i]? = some v) acc items.size → Q (.ref s.heap.objs.size) { s with heap := h', toks := tk }) :
    wpAny (model prog w) A (call (.type "list") [.ref it]) Q E s := by
  obtain ⟨oi, hoi, _⟩ := id hit
  obtain ⟨ol, hol, _⟩ := id hl
  have hSi : s.heap.objs.size ≠ it := Nat.ne_of_gt (Heap.lt_size hoi)
  have hSl : s.heap.objs.size ≠ l := Nat.ne_of_gt (Heap.lt_size hol)
  refine callType_codes (Q₁ := fun obj s₁ => obj = .ref s.heap.objs.size ∧ s₁ = { s with heap := s.heap.push { cls := .type "list", data := .seq #[] } }) PySem.F.called_list (PySem.F.typeCall_list_1 _) PySem.F.entry_list_init
    (code_list_new _ ⟨rfl, rfl⟩) fun obj s₁ h₁ => ?_
  obtain ⟨rfl, rfl⟩ := h₁
  have hS : (s.heap.push { cls := .type "list", data := .seq #[] }).get? s.heap.objs.size = some { cls := .type "list", data := .seq #[] } := Heap.get?_push_size _ rfl
  refine ⟨⟨_, hS, rfl⟩, PySem.F.args_list_init_2 _ _, ?_⟩
  show wpAny _ _ (do let old ← Builtin.List.listItems (.ref s.heap.objs.size); Builtin.List.listUpdate (.ref s.heap.objs.size) (fun _ => #[]); letGo old.toList.reverse; Builtin.List.listExtendWith (.ref s.heap.objs.size) (.ref it) .none) _ _ _
  refine wpAny_bind ?_
  unfold Builtin.List.listItems
  refine wpAny_bind (wpAny_seqItems hS rfl (wpAny_pure ?_))
  show wpAny _ _ (updateSeq s.heap.objs.size (fun _ => #[]) >>= fun _ => letGo (#[] : Array Value).toList.reverse >>= fun _ => Builtin.List.listExtendWith (.ref s.heap.objs.size) (.ref it) .none) _ _ _
  refine wpAny_bind (wpAny_updateSeq hS rfl ?_)
  have hS₂ := Heap.get?_update_self (Obj.mapSeq (fun _ => (#[] : Array Value))) hS rfl
  have oth : ∀ b o, b ≠ s.heap.objs.size → s.heap.get? b = some o → ((s.heap.push { cls := .type "list", data := .seq #[] }).update s.heap.objs.size (Obj.mapSeq (fun _ => (#[] : Array Value)))).get? b = some o :=
    fun b o hb e => (Heap.get?_update_other _ _ (Ne.symm hb)).trans (Heap.get?_push_of_some _ e)
  refine wpAny_bind (wpAny_letGo ?_)
  refine rev_extend (A := A.in1) (items := items) hh (hit.at fun o e => oth _ _ (Ne.symm hSi) e) (hl.at fun o e => oth _ _ (Ne.symm hSl) e) hne hSi hSl hn hS₂ fun h' tk acc' c' hk hS' hacc => ?_
  exact ⟨rfl, hQ h' tk acc' c' (fun b o hb e => hk b o (Nat.ne_of_lt (Heap.lt_size e)) hb (oth b o (Nat.ne_of_lt (Heap.lt_size e)) e)) hS' hacc⟩
end
section
variable {X : Cx}
def tListRev (K : PySem.W.Frag) (te : TE) : TE := fun σ H Q => te σ H fun v H1 => ∃ (a : Addr) (xs : List V), v = .ref a ∧ SqL K H1 a xs ∧ ∀ q, H1 q = none → Q (.ref q) (upd H1 q (.lst xs.reverse))
theorem pe_listRev {e : Expr} {te : TE} {p p2 pos pos2 : Pos} (hc : X.calm = true) (hg : Gl X "list") (hm : X.mg "list" = none) (hg2 : Gl X "reversed") (hm2 : X.mg "reversed" = none) (he : PE X e te)
    (hs : starEach [e] X.env = (false, eval e X.env) :: starEach [] X.env := by rfl)
    (hs2 : starEach [.Call (.Name "reversed" p2) [e] [] pos2] X.env = (false, eval (.Call (.Name "reversed" p2) [e] [] pos2) X.env) :: starEach [] X.env := by rfl) :
    PE X (.Call (.Name "list" p) [.Call (.Name "reversed" p2) [e] [] pos2] [] pos) (tListRev X.K te) := by
  refine ⟨fun pins s σ H Q I h => ?_⟩
  refine Call_ (ld_blt I hg hm boot_list (PyProof.Rows.callWith_type1 (args_cons (Call_ (ld_blt I hg2 hm2 PyProof.Rows.boot_reversed (PyProof.Rows.callWith_type1 (args_cons (thn (he.run pins s σ H _ I h) fun u s1 ⟨v, H1, I1, r1, q1⟩ => args_nil ?_) hs) hs rfl))) hs2) hs2 rfl))
  obtain ⟨a, xs, ev, hq, q⟩ := q1
  subst ev
  obtain rfl : u = Value.ref a := r1
  obtain ⟨its, rv, p', hz⟩ := I1.list hq
  refine call_reversed_list p'.isList (args_nil ?_)
  have k0 : ∀ b o, s1.heap.get? b = some o → (s1.heap.push (revObj a ((its.toArray.size : Int) - 1))).get? b = some o := fun b o e => Heap.get?_push_of_some _ e
  have I2 : Inv X pins σ H1 { s1 with heap := s1.heap.push (revObj a ((its.toArray.size : Int) - 1)) } := I1.kept (t' := s1.toks) k0
  obtain ⟨f0, f1, f2, f3, f4, f5⟩ := I1.fpOk (H' := H1) (b := s1.heap.objs.size) (Nat.le_refl _) (I1.hok.fresh (Nat.le_refl _))
  have hl := p'.isList
  obtain ⟨ol, hol, _⟩ := id hl
  have hne : a ≠ s1.heap.objs.size := Nat.ne_of_lt (Heap.lt_size hol)
  have hn : its.toArray.size ≤ sizeLine := by rw [List.size_toArray, ← rv.length]; exact hz
  refine call_list_rev (s := { s1 with heap := s1.heap.push (revObj a ((its.toArray.size : Int) - 1)) }) (I1.ok.hd hc) ⟨_, Heap.get?_push_size _ rfl, rfl, rfl⟩ (hl.push _) hne hn fun h' tk acc c' hk hS hi => ?_
  have hsz : (s1.heap.push (revObj a ((its.toArray.size : Int) - 1))).objs.size = s1.heap.objs.size + 1 := Heap.size_push ..
  have hfp := I1.fpOk (H' := H1) (b := s1.heap.objs.size) (Nat.le_refl _) (I1.hok.fresh (Nat.le_refl _))
  have new : ObjOk X.prog X.w (upd H1 (s1.heap.objs.size + 1) (.lst xs.reverse)) h' (s1.heap.objs.size + 1) (.lst xs.reverse) :=
    ⟨by rw [List.length_reverse]; exact hz, acc.toList, c', vals_rev rv hi, by rw [Array.toArray_toList, ← hsz]; exact hS⟩
  have I3 : Inv X pins σ (upd H1 (s1.heap.objs.size + 1) (.lst xs.reverse)) { s1 with heap := h', toks := tk } :=
    I2.turnedNew (t' := tk) (ch := [s1.heap.objs.size]) (fun b o hb e => hk b o (fun z => hb (by simp [z])) e) (fun b hb => by rw [List.mem_singleton.mp hb]; exact hfp) (Nat.le_of_eq hsz) new
  rw [hsz]
  exact ⟨.ref (s1.heap.objs.size + 1), _, I3, rfl, q _ (I1.hok.fresh (Nat.le_add_right _ 1))⟩
/-- list(reversed(l)) -/
def dRev : D → Res D
  | .lst xs => .ok (.lst xs.reverse)
  | _ => .bad
theorem df_listRev {W : WX} {A : Nat → Prop} {f : DL.Env → Res D} {a : Expr} {p p2 pos pos2 : Pos} (hc : X.calm = true) (hg : Gl X "list") (hm : X.mg "list" = none) (hg2 : Gl X "reversed") (hm2 : X.mg "reversed" = none) (ha : DR X W A a f)
    (hs : starEach [a] X.env = (false, eval a X.env) :: starEach [] X.env := by rfl)
    (hs2 : starEach [.Call (.Name "reversed" p2) [a] [] pos2] X.env = (false, eval (.Call (.Name "reversed" p2) [a] [] pos2) X.env) :: starEach [] X.env := by rfl) :
    DF X W A (.Call (.Name "list" p) [.Call (.Name "reversed" p2) [a] [] pos2] [] pos) (e1 dRev f) :=
  (pe_listRev hc hg hm hg2 hm2 ha hs hs2).imp fun σ H Q ⟨e, G, E, q⟩ => ⟨e, G, E, q.split.imp fun d H1 G1 x1 q1 v rv => by
    cases d with
    | lst xs =>
      obtain ⟨b, vs, rfl, s, r⟩ := rv
      exact ⟨b, vs, rfl, s, fun l hl => q1 (upd H1 l (.lst vs.reverse)) G1 ⟨Sub.upd hl, Sub.refl _, x1.gh.trans (Sub.upd hl), fun b z => .inl z⟩ l (x1.hh.free hl) (x1.gh.free hl) ⟨_, upd_same, r.reverse⟩⟩
    | _ => exact (show False from q1).elim⟩
end
end DL

/-! {k: v, ..} with keys that are written out -/
namespace DL
open PySem PySem.Spec PyProof.Rows L2
open PySem.Builtin.Int (intBits)
def eVals : List (Key × (DL.Env → Res D)) → DL.Env → Res (List D)
  | [] => aNil
  | p :: r => aCons p.2 (eVals r)
/-- the pairs of keys and values -/
def zipK : List Key → List V → List (Key × V)
  | k :: ks, v :: vs => (k, v) :: zipK ks vs
  | _, _ => []
def kzipD : List Key → List D → List (D × D)
  | k :: ks, d :: ds => (keyD k, d) :: kzipD ks ds
  | _, _ => []
def eDisp (l : List (Key × (DL.Env → Res D))) : DL.Env → Res D := fun e => (eVals l e).bind fun ds => .ok (.dct false (kzipD (l.map (·.1)) ds))
section
variable {K : PySem.W.Frag} {mg : Str → Option Value} {W : WX} {A : Nat → Prop}
abbrev dispT (K : PySem.W.Frag) (mg : Str → Option Value) (W : WX) (A : Nat → Prop) (p : Key × (DL.Env → Res D)) : TE × TE := (tC (kV p.1), tD K mg W A p.2)
theorem tPairs_of : ∀ (l : List (Key × (DL.Env → Res D))) (e : DL.Env) (σ : L2.St) (H G : Hp) (Q : List (V × V) → Hp → Prop), EnvG K A σ e H G → PostG K mg (fun c o H' => W c o σ H') H G (eVals l e) (fun ds H' G' => ∀ vs, RepL K G' ds vs → Q ((zipK (l.map (·.1)) vs).map fun kv => (kV kv.1, kv.2)) H') → tPairs (l.map (dispT K mg W A)) σ H Q
  | [], e, σ, H, G, Q, E, p => p.here E.sub [] rfl
  | q :: l, e, σ, H, G, Q, E, p => by
    show tD K mg W A q.2 σ H fun y H2 => tPairs (l.map (dispT K mg W A)) σ H2 fun ps H3 => Q ((kV q.1, y) :: ps) H3
    refine ⟨e, G, E, (PostG.split p).imp fun d H1 G1 x1 p1 v rv => ?_⟩
    refine tPairs_of l e σ H1 G1 _ (E.ext x1) ((PostG.split p1).imp fun ds H2 G2 x2 p2 vs rs => ?_)
    exact p2.here x2.gh (v :: vs) (.cons (rv.mono x2.gg) rs)
theorem zipK_len : ∀ (ks : List Key) (vs : List V), (zipK ks vs).length ≤ ks.length
  | [], _ => by simp [zipK]
  | _ :: _, [] => by simp [zipK]
  | k :: ks, v :: vs => by
    have := zipK_len ks vs
    rw [zipK, List.length_cons, List.length_cons]; omega
theorem zipK_keys : ∀ (ks : List Key) (vs : List V), ∀ k, k ∈ (zipK ks vs).map (·.1) → k ∈ ks
  | [], _, k, h => by simp [zipK] at h
  | _ :: _, [], k, h => by simp [zipK] at h
  | a :: ks, v :: vs, k, h => by
    rw [zipK, List.map_cons, List.mem_cons] at h
    rcases h with h | h
    · rw [h]; exact List.mem_cons_self
    · exact List.mem_cons_of_mem _ (zipK_keys ks vs k h)
theorem putK_new : ∀ {kvs : List (Key × V)} {k : Key} (v : V), k ∉ kvs.map (·.1) → putK kvs k v = kvs ++ [(k, v)] := by
  intro kvs k v h
  unfold putK
  rw [if_neg]
  intro z
  rw [List.any_eq_true] at z
  obtain ⟨p, hp, e⟩ := z
  exact h (List.mem_map.mpr ⟨p, hp, by simpa using e⟩)
theorem mergeK_new : ∀ (more kvs : List (Key × V)), (∀ k, k ∈ kvs.map (·.1) → k ∉ more.map (·.1)) → (more.map (·.1)).Nodup → mergeK kvs more = kvs ++ more
  | [], kvs, _, _ => by show kvs = _; rw [List.append_nil]
  | p :: more, kvs, h, nd => by
    rw [List.map_cons, List.nodup_cons] at nd
    show mergeK (putK kvs p.1 p.2) more = _
    have hp : p.1 ∉ kvs.map (·.1) := fun z => h _ z (by simp)
    rw [putK_new _ hp, mergeK_new more _ (fun k hk z => ?_) nd.2]
    · simp
    · rw [List.map_append, List.mem_append] at hk
      rcases hk with hk | hk
      · exact h k hk (by rw [List.map_cons]; exact List.mem_cons_of_mem _ z)
      · have : k = p.1 := by simpa using hk
        exact nd.1 (this ▸ z)
theorem zipK_nodup : ∀ (ks : List Key) (vs : List V), ks.Nodup → ((zipK ks vs).map (·.1)).Nodup
  | [], _, _ => by simp [zipK]
  | _ :: _, [], _ => by simp [zipK]
  | k :: ks, v :: vs, h => by
    rw [List.nodup_cons] at h
    rw [zipK, List.map_cons, List.nodup_cons]
    exact ⟨fun z => h.1 (zipK_keys ks vs _ z), zipK_nodup ks vs h.2⟩
theorem zip_rep {G : Hp} : ∀ (ks : List Key) (ds : List D) (vs : List V), RepL K G ds vs → (kzipD ks ds).map (·.1) = (zipK ks vs).map (fun p => keyD p.1) ∧ RepV K G (kzipD ks ds) ((zipK ks vs).map (·.2))
  | [], _, _, _ => ⟨rfl, rfl⟩
  | k :: ks, [], vs, r => by
    cases (show vs = [] from r)
    exact ⟨rfl, rfl⟩
  | k :: ks, d :: ds, vs, r => by
    obtain ⟨v, r', rfl, rv, rr⟩ := r
    obtain ⟨a, b⟩ := zip_rep ks ds r' rr
    refine ⟨?_, v, (zipK ks r').map (·.2), rfl, rv, b⟩
    show keyD k :: (kzipD ks ds).map (·.1) = keyD k :: (zipK ks r').map (fun p => keyD p.1)
    rw [a]
end
section
variable {X : Cx} {W : WX} {A : Nat → Prop} {pos : Pos}
/-- the pairs of the display are these -/
abbrev DPs (X : Cx) (W : WX) (A : Nat → Prop) (pos : Pos) (keys : List (Option Expr)) (values : List Expr) (l : List (Key × (DL.Env → Res D))) : Prop := PPs X pos keys values (l.map (dispT X.K X.mg W A))
theorem dps_nil : DPs X W A pos [] [] [] := pps_nil
theorem dps_str {x : Str} {v : Expr} {ks : List (Option Expr)} {vs : List Expr} {f : DL.Env → Res D} {l : List (Key × (DL.Env → Res D))} {e : Expr} (hk : PE X e (tC (.str x))) (hv : DE X W A v f) (hr : DPs X W A pos ks vs l) : DPs X W A pos (some e :: ks) (v :: vs) ((.inr x, f) :: l) :=
  pps_cons hk hv hr
theorem df_disp {keys : List (Option Expr)} {values : List Expr} {l : List (Key × (DL.Env → Res D))} (h : DPs X W A pos keys values l) (hall : keys.all (·.isSome) = true) (hl : keys.length = values.length) (h0 : keys ≠ []) (h15 : keys.length ≤ 15) (hn : (l.map (·.1)).Nodup) (hl2 : l.length ≤ 15) : DF X W A (.Dict keys values pos) (eDisp l) :=
  (pe_disp h hall hl h0 h15).imp fun σ H Q ⟨e, G, E, q⟩ p hp => by
    have x0 : Ext H G (upd H p (.dK [])) G := ⟨Sub.upd hp, Sub.refl _, E.sub.trans (Sub.upd hp), fun b z => .inl z⟩
    refine tPairs_of l e σ _ G _ (E.ext x0) (((PostG.split q).ext x0).ifok fun ds H2 G2 hk x2 p2 vs rs => ?_)
    have hp2 : H2 p = some (.dK []) := x2.hh p _ upd_same
    have gp : G p = none := E.sub.free hp
    have gp2 : G2 p = none := by
      cases z : G2 p with
      | none => rfl
      | some o =>
        rcases x2.new p (by rw [z]; exact fun h => by cases h) with w | w
        · exact absurd gp w
        · exfalso
          unfold Fr1 at w
          rw [upd_same] at w
          rcases w with w | ⟨_, w⟩
          · cases w
          · cases w
    refine ⟨hp2, zipK (l.map (·.1)) vs, rfl, Nat.le_trans (zipK_len _ _) (by rw [List.length_map]; exact hl2), ?_⟩
    have em : mergeK [] (zipK (l.map (·.1)) vs) = zipK (l.map (·.1)) vs := by
      rw [mergeK_new _ [] (fun k hk => by cases hk) (zipK_nodup _ _ hn), List.nil_append]
    rw [em]
    obtain ⟨z1, z2⟩ := zip_rep (l.map (·.1)) ds vs rs
    have sub : Sub H (upd H2 p (.dK (zipK (l.map (·.1)) vs))) := fun b o hb => by
      have ne : b ≠ p := fun z => by rw [z, hp] at hb; cases hb
      rw [upd_ne ne]
      exact x2.hh b o (by rw [upd_ne ne]; exact hb)
    have gsub : Sub G2 (upd H2 p (.dK (zipK (l.map (·.1)) vs))) := fun b o hb => by
      have ne : b ≠ p := fun z => by rw [z, gp2] at hb; cases hb
      rw [upd_ne ne]
      exact x2.gh b o hb
    have ext : Ext H G (upd H2 p (.dK (zipK (l.map (·.1)) vs))) G2 := ⟨sub, x2.gg, gsub, fun b hb => (x2.new b hb).imp id fun z => z.back (Sub.upd hp)⟩
    unfold eDisp at q
    rw [hk] at q
    exact q _ _ ext p hp gp2 (.inl ⟨rfl, _, upd_same, z1, z2⟩)
end
end DL

/-! dict(d); dicts with number and text keys compared -/
namespace DL
open PySem PySem.Spec PyProof.Rows L2
open PySem.Builtin.Int (intBits)
section
variable {X : Cx} {W : WX}
/-- dict(d) -/
def dDict : D → Res D
  | .dct false kvs => .ok (.dct false kvs)
  | _ => .bad
theorem c1_dict : Call1F X W (.type "dict") dDict := by
  refine ⟨_, call_dictD, fun σ H G x dx Q sg rx p => ?_⟩
  cases dx with
  | dct t kvs =>
    obtain ⟨a, e, h⟩ := rx
    subst e
    rcases h with ⟨rfl, ps, h1, h2, h3⟩ | ⟨rfl, ps, h1, h2, h3⟩
    · refine ⟨a, ps, rfl, h1, fun l hl => ?_⟩
      exact (show PostG X.K X.mg _ H G (Res.ok (D.dct false kvs)) _ from p) (upd H l (.dK ps)) G ⟨Sub.upd hl, Sub.refl _, sg.trans (Sub.upd hl), fun b z => .inl z⟩ l hl (sg.free hl) (.inl ⟨rfl, ps, upd_same, h2, h3⟩)
    · exact (show False from p).elim
  | _ => exact (show False from p).elim
/-! ### == -/
def D.flat : D → Bool
  | .int _ => true
  | .str _ => true
  | .bl _ => true
  | _ => false
open Classical in
/-- equal dicts (only those are served) -/
noncomputable def dEqD : D → D → Res D := fun x y => match x, y with
  | .dct false a, .dct false b => if a.length = b.length ∧ ∀ p ∈ a, dFind b p.1 = some p.2 ∧ p.2.flat = true then .ok (.bl true) else .bad
  | _, _ => .bad
def rEqDR : R2 := fun x y H Q => ∃ a b ks ls, x = .ref a ∧ y = .ref b ∧ Rd H a (.dK ks) ∧ Rd H b (.dK ls) ∧ ks.length = ls.length ∧ (∀ p ∈ ks, valV ls p.1 = some p.2 ∧ flatB p.2 = true) ∧ Q (.bl true) H
theorem op_eq_dictR (hu : X.A.units < cLine) : OpR X (compareOp .Eq) rEqDR := by
  intro pins s σ H x y v u Q I rx ry h
  obtain ⟨a, b, ks, ls, rfl, rfl, ea, eb, hlen, hp, q⟩ := h
  obtain rfl : v = Value.ref a := rx
  obtain rfl : u = Value.ref b := ry
  obtain ⟨_, ya, va, ra, da⟩ := dk_rd I.hok ea
  obtain ⟨_, yb, vb, rb, db⟩ := dk_rd I.hok eb
  have hl : va.length = vb.length := by rw [← ra.length, ← rb.length]; exact hlen
  exact PySem.W.keq_eq (knd := mixKind X.prog X.w) (r := true) ya yb da db hu (fun _ => hits_all rb ra hp) (fin_bl I q (by simp [hl]))
theorem flat_rep {K : PySem.W.Frag} {G : Hp} {d : D} {v w : V} (h : d.flat = true) (r : Rep K G d v) (r2 : Rep K G d w) : v = w ∧ flatB v = true := by
  cases d with
  | int i => cases (show v = .int i from r); cases (show w = .int i from r2); exact ⟨rfl, rfl⟩
  | str i => cases (show v = .str i from r); cases (show w = .str i from r2); exact ⟨rfl, rfl⟩
  | bl i => cases (show v = .bl i from r); cases (show w = .bl i from r2); exact ⟨rfl, rfl⟩
  | _ => cases h
theorem repv_mem {K : PySem.W.Frag} {G : Hp} : ∀ {kvs : List (D × D)} {ps : List (Key × V)}, kvs.map (·.1) = ps.map (fun p => keyD p.1) → RepV K G kvs (ps.map (·.2)) → ∀ p ∈ ps, ∃ d, (keyD p.1, d) ∈ kvs ∧ Rep K G d p.2
  | [], [], _, _, p, h => by cases h
  | [], _ :: _, h, _, _, _ => by simp at h
  | _ :: _, [], h, _, _, _ => by simp at h
  | (k, d) :: kvs, q :: ps, h, r, p, hp => by
    rw [List.map_cons, List.map_cons, List.cons.injEq] at h
    obtain ⟨v, r', e, rv, rr⟩ := r
    rw [List.map_cons, List.cons.injEq] at e
    rw [List.mem_cons] at hp
    rcases hp with rfl | hp
    · refine ⟨d, ?_, by rw [e.1]; exact rv⟩
      have : k = keyD p.1 := h.1
      rw [this]
      exact List.mem_cons_self
    · rw [← e.2] at rr
      obtain ⟨d', a, b⟩ := repv_mem h.2 rr p hp
      exact ⟨d', List.mem_cons_of_mem _ a, b⟩
theorem od_eqD (hu : X.A.units < cLine) : OpD X W (compareOp .Eq) dEqD := by
  refine ⟨_, op_eq_dictR hu, fun σ H G x y dx dy Q sg rx ry p => ?_⟩
  cases dx with
  | dct t ka =>
    cases dy with
    | dct t2 kb =>
      obtain ⟨a, rfl, h⟩ := rx
      obtain ⟨b, rfl, h'⟩ := ry
      rcases h with ⟨rfl, ps, h1, h2, h3⟩ | ⟨rfl, ps, h1, h2, h3⟩
      · rcases h' with ⟨rfl, ps', g1, g2, g3⟩ | ⟨rfl, ps', g1, g2, g3⟩
        · dsimp only [dEqD] at p
          by_cases hc : ka.length = kb.length ∧ ∀ p ∈ ka, dFind kb p.1 = some p.2 ∧ p.2.flat = true
          · rw [if_pos hc] at p
            have l1 := congrArg List.length h2
            have l2 := congrArg List.length g2
            rw [List.length_map, List.length_map] at l1 l2
            refine ⟨a, b, ps, ps', rfl, rfl, h1, g1, by rw [← l1, ← l2]; exact hc.1, fun q hq => ?_, PostG.val (d := .bl true) p sg rfl⟩
            obtain ⟨d, m1, m2⟩ := repv_mem h2 h3 q hq
            obtain ⟨f1, f2⟩ := hc.2 _ m1
            rcases repv_find (f := keyD) (fun _ _ => keyD_inj) g2 g3 q.1 with ⟨z, _⟩ | ⟨d', v, z1, z2, z3⟩
            · rw [z] at f1; cases f1
            · rw [z1] at f1
              cases f1
              obtain ⟨e1, e2⟩ := flat_rep f2 m2 z3
              exact ⟨by rw [z2, e1], e2⟩
          · rw [if_neg hc] at p; exact p.elim
        · exact (show False from p).elim
      · cases t2 <;> exact (show False from p).elim
    | _ => cases t <;> exact (show False from p).elim
  | _ => cases dy <;> exact (show False from p).elim
end
theorem _root_.L2.Room.hu0 {k : Nat} {A : Around} (h : Room k A) : A.units < cLine := by have := h.un; omega
end DL

/-! max, min of a list of numbers -/
namespace DL
open PySem PySem.Spec PyProof.Rows L2
open PySem.Builtin.Int (intBits)
def maxI : List Int → Int
  | [] => 0
  | x :: r => match r with
    | [] => x
    | _ :: _ => max x (maxI r)
def minI : List Int → Int
  | [] => 0
  | x :: r => match r with
    | [] => x
    | _ :: _ => min x (minI r)
theorem maxI_ok : ∀ {ns : List Int}, ns ≠ [] → maxI ns ∈ ns ∧ ∀ y ∈ ns, y ≤ maxI ns
  | [], h => absurd rfl h
  | [x], _ => ⟨List.mem_cons_self, fun y h => by rw [List.mem_singleton.mp h]; exact Int.le_refl _⟩
  | x :: y :: r, _ => by
    obtain ⟨a, b⟩ := maxI_ok (ns := y :: r) (by simp)
    show max x (maxI (y :: r)) ∈ _ ∧ ∀ z ∈ _, z ≤ max x (maxI (y :: r))
    refine ⟨?_, fun z hz => ?_⟩
    · rcases Int.le_total x (maxI (y :: r)) with h | h
      · rw [Int.max_eq_right h]; exact List.mem_cons_of_mem _ a
      · rw [Int.max_eq_left h]; exact List.mem_cons_self
    · rw [List.mem_cons] at hz
      rcases hz with rfl | hz
      · omega
      · have := b z hz; omega
theorem minI_ok : ∀ {ns : List Int}, ns ≠ [] → minI ns ∈ ns ∧ ∀ y ∈ ns, minI ns ≤ y
  | [], h => absurd rfl h
  | [x], _ => ⟨List.mem_cons_self, fun y h => by rw [List.mem_singleton.mp h]; exact Int.le_refl _⟩
  | x :: y :: r, _ => by
    obtain ⟨a, b⟩ := minI_ok (ns := y :: r) (by simp)
    show min x (minI (y :: r)) ∈ _ ∧ ∀ z ∈ _, min x (minI (y :: r)) ≤ z
    refine ⟨?_, fun z hz => ?_⟩
    · rcases Int.le_total x (minI (y :: r)) with h | h
      · rw [Int.min_eq_left h]; exact List.mem_cons_self
      · rw [Int.min_eq_right h]; exact List.mem_cons_of_mem _ a
    · rw [List.mem_cons] at hz
      rcases hz with rfl | hz
      · omega
      · have := b z hz; omega
def dMaxL : D → Res D
  | .lst xs => match D.ints xs with
    | some (n :: ns) => .ok (.int (maxI (n :: ns)))
    | _ => .bad
  | _ => .bad
def dMinL : D → Res D
  | .lst xs => match D.ints xs with
    | some (n :: ns) => .ok (.int (minI (n :: ns)))
    | _ => .bad
  | _ => .bad
theorem ints_rep {K : PySem.W.Frag} {G : Hp} : ∀ {ds : List D} {ns : List Int} {vs : List V}, D.ints ds = some ns → RepL K G ds vs → vs = ns.map V.int
  | [], ns, vs, h, r => by cases h; exact r
  | d :: ds, ns, vs, h, r => by
    obtain ⟨v, r', rfl, a, b⟩ := r
    cases d with
    | int i =>
      have h' : (D.ints ds).map (fun t => i :: t) = some ns := h
      cases hi : D.ints ds with
      | none => rw [hi] at h'; cases h'
      | some t =>
        rw [hi] at h'
        cases h'
        rw [show v = .int i from a, ints_rep hi b]
        rfl
    | _ => cases h
section
variable {X : Cx} {W : WX}
theorem c1_maxL (hc : X.calm = true) : Call1 X W (.builtin "max") dMaxL := by
  refine ⟨_, cr_max hc, fun σ H G x dx Q sg rx p => ?_⟩
  cases dx with
  | lst ds =>
    obtain ⟨q, vs, e, s, r⟩ := rx
    subst e
    dsimp only [dMaxL] at p
    cases hi : D.ints ds with
    | none => rw [hi] at p; exact p.elim
    | some ns =>
      rw [hi] at p
      cases ns with
      | nil => exact p.elim
      | cons n ns =>
        have ev := ints_rep hi r
        subst ev
        obtain ⟨a, b⟩ := maxI_ok (ns := n :: ns) (by simp)
        refine ⟨q, n :: ns, rfl, s, by simp, fun m m1 m2 => ?_⟩
        have e : m = maxI (n :: ns) := Int.le_antisymm (b m m1) (m2 _ a)
        rw [e]
        exact PostG.val (d := .int (maxI (n :: ns))) p sg rfl
  | _ => exact (show False from p).elim
theorem c1_minL (hc : X.calm = true) : Call1 X W (.builtin "min") dMinL := by
  refine ⟨_, cr_min hc, fun σ H G x dx Q sg rx p => ?_⟩
  cases dx with
  | lst ds =>
    obtain ⟨q, vs, e, s, r⟩ := rx
    subst e
    dsimp only [dMinL] at p
    cases hi : D.ints ds with
    | none => rw [hi] at p; exact p.elim
    | some ns =>
      rw [hi] at p
      cases ns with
      | nil => exact p.elim
      | cons n ns =>
        have ev := ints_rep hi r
        subst ev
        obtain ⟨a, b⟩ := minI_ok (ns := n :: ns) (by simp)
        refine ⟨q, n :: ns, rfl, s, by simp, fun m m1 m2 => ?_⟩
        have e : m = minI (n :: ns) := Int.le_antisymm (m2 _ a) (b m m1)
        rw [e]
        exact PostG.val (d := .int (minI (n :: ns))) p sg rfl
  | _ => exact (show False from p).elim
end
end DL

/-! slices and sums of lists are new lists -/
namespace DL
open PySem PySem.Spec PyProof.Rows L2
open PySem.Builtin.Int (intBits)
section
variable {X : Cx} {W : WX} {A : Nat → Prop} {a b : Expr} {lo hi : Option Expr} {pos p2 : Pos}
/-- l[lo:hi] of a list -/
def eCutL (f : DL.Env → Res D) (fl fh : DL.Env → Res (Option Int)) : DL.Env → Res D := fun e => (f e).bind fun d => (fl e).bind fun lo => (fh e).bind fun hi => match d with
  | .lst xs => .ok (.lst (cutL xs lo hi))
  | _ => .bad
theorem df_cutL {f : DL.Env → Res D} {fl fh : DL.Env → Res (Option Int)} (ha : DR X W A a f) (hl : DO X W A lo fl) (hh : DO X W A hi fh) : DF X W A (.Subscript a (.Slice lo hi none p2) pos) (eCutL f fl fh) :=
  (pe_slice sl_list ha hl hh).imp fun σ H Q ⟨e, G, E, p⟩ => ⟨e, G, E, p.split.imp fun d H1 G1 x1 p1 v rv => ⟨e, G1, E.ext x1, p1.split.imp fun l H2 G2 x2 p2 => ⟨e, G2, (E.ext x1).ext x2, p2.split.imp fun u H3 G3 x3 p3 => by
    have rv := (rv.mono x2.hh x2.gg).mono x3.hh x3.gg
    have sg := x3.gh
    cases d with
    | lst ds =>
      obtain ⟨q, vs, eq, s, r⟩ := rv
      refine ⟨q, vs, eq, s, fun q2 hq => ?_⟩
      exact p3 (upd H3 q2 (.lst (cutV vs l u))) G3 ⟨Sub.upd hq, Sub.refl _, sg.trans (Sub.upd hq), fun b z => .inl z⟩ q2 (x1.hh.free (x2.hh.free (x3.hh.free hq))) (sg.free hq) ⟨_, upd_same, r.cut l u⟩
    | _ => exact (show False from p3).elim⟩⟩⟩
/-- a + b of lists -/
def dCat : D → D → Res D
  | .lst a, .lst b => if a.length + b.length ≤ sizeLine then .ok (.lst (a ++ b)) else .bad
  | _, _ => .bad
theorem df_cat {fa fb : DL.Env → Res D} (ha : DR X W A a fa) (hb : DR X W A b fb) : DF X W A (.BinOp a .Add b pos) (eOp dCat fa fb) :=
  (pe_op op_catR ha hb).imp fun σ H Q ⟨en, G, E, q⟩ => ⟨en, G, E, q.split.imp fun d H1 G1 x1 q1 v rv => ⟨en, G1, E.ext x1, q1.split.imp fun d2 H2 G2 x2 q2 u ru => by
    have rv := rv.mono x2.hh x2.gg
    have sg := x2.gh
    cases d with
    | lst xs =>
      cases d2 with
      | lst ys =>
        obtain ⟨l, vs, rfl, s1, r1⟩ := rv
        obtain ⟨m, ws, rfl, s2, r2⟩ := ru
        by_cases hc : xs.length + ys.length ≤ sizeLine
        · have q2' : PostG X.K X.mg _ H2 G2 (if xs.length + ys.length ≤ sizeLine then Res.ok (D.lst (xs ++ ys)) else .bad) _ := q2
          rw [if_pos hc] at q2'
          refine ⟨l, m, vs, ws, rfl, rfl, s1, s2, by rw [r1.length, r2.length]; exact hc, fun p hp => ?_⟩
          exact q2' (upd H2 p (.lst (vs ++ ws))) G2 ⟨Sub.upd hp, Sub.refl _, sg.trans (Sub.upd hp), fun b z => .inl z⟩ p (x1.hh.free (x2.hh.free hp)) (sg.free hp) ⟨_, upd_same, r1.append r2⟩
        · have q2' : PostG X.K X.mg _ H2 G2 (if xs.length + ys.length ≤ sizeLine then Res.ok (D.lst (xs ++ ys)) else .bad) _ := q2
          rw [if_neg hc] at q2'
          exact q2'.elim
      | _ => exact (show False from q2).elim
    | _ => cases d2 <;> exact (show False from q2).elim⟩⟩
end
end DL

/-! sets of numbers and texts made of a list: how many, and sorted -/
namespace DL
open PySem PySem.Spec PyProof.Rows L2
open PySem.Builtin.Int (intBits)
section
variable {α β : Type} {F : α → β → Prop}
theorem paired_perm {r r' : List β} (p : r'.Perm r) : ∀ {l : List α}, Paired F l r → ∃ l', l'.Perm l ∧ Paired F l' r' := by
  induction p with
  | nil => intro l q; cases q; exact ⟨[], .nil, .nil⟩
  | cons x p ih =>
    intro l q
    cases q with
    | cons h t => obtain ⟨l', a, b⟩ := ih t; exact ⟨_ :: l', a.cons _, .cons h b⟩
  | swap x y r =>
    intro l q
    cases q with
    | cons h t => cases t with
      | cons h2 t2 => exact ⟨_, List.Perm.swap _ _ _, .cons h2 (.cons h t2)⟩
  | trans p1 p2 ih1 ih2 =>
    intro l q
    obtain ⟨l1, a, b⟩ := ih2 q
    obtain ⟨l2, c, d⟩ := ih1 b
    exact ⟨l2, c.trans a, d⟩
theorem paired_right {l : List α} {r : List β} (h : Paired F l r) : ∀ e ∈ r, ∃ k ∈ l, F k e := by
  induction h with
  | nil => intro e he; cases he
  | cons a t ih =>
    intro e he
    rcases List.mem_cons.mp he with rfl | he
    · exact ⟨_, List.mem_cons_self, a⟩
    · obtain ⟨k, hk, f⟩ := ih e he; exact ⟨k, List.mem_cons_of_mem _ hk, f⟩
theorem paired_left {l : List α} {r : List β} (h : Paired F l r) : ∀ k ∈ l, ∃ e ∈ r, F k e := by
  induction h with
  | nil => intro e he; cases he
  | cons a t ih =>
    intro e he
    rcases List.mem_cons.mp he with rfl | he
    · exact ⟨_, List.mem_cons_self, a⟩
    · obtain ⟨k, hk, f⟩ := ih e he; exact ⟨k, List.mem_cons_of_mem _ hk, f⟩
theorem paired_len {l : List α} {r : List β} (h : Paired F l r) : l.length = r.length := by
  induction h with
  | nil => rfl
  | cons a t ih => simp [ih]
end
open Classical in
/-- each once -/
noncomputable def nubK : List Key → List Key
  | [] => []
  | k :: r => if k ∈ nubK r then nubK r else k :: nubK r
def GoodK (P : Program) (w : World) (k : Key) (e : Int × Value) : Prop := (mixKind P w).is k e.2 = true ∧ e.1 = (mixKind P w).hash k ∧ e.2.scannable = true
/-- a set of numbers and texts, that can be walked -/
def SetG (P : Program) (w : World) (h : Heap) (a : Addr) (ks : List Key) : Prop :=
  ∃ o es ep t ls, h.get? a = some o ∧ o.ExactSet ∧ o.data = .set es ep t ∧ Paired (GoodK P w) ls es.toList ∧ ls.Perm ks ∧ ks.Nodup ∧ es.size < scanBound ∧ t.fits es.size = true ∧ L2.Ris t.place.toList ∧ (w.params.followText "set-order" = true ∨ t.led = true)
section
variable {P : Program} {w : World} {A : Around} {E : Value → Shared → Prop} {s : Shared} {a : Addr} {ks : List Key}
theorem SetG.at {h h' : Heap} (R : SetG P w h a ks) (k : ∀ o, h.get? a = some o → h'.get? a = some o) : SetG P w h' a ks := by
  obtain ⟨o, es, ep, t, ls, ho, r⟩ := R
  exact ⟨o, es, ep, t, ls, k o ho, r⟩
theorem good_all {ls : List Key} {es : List (Int × Value)} (h : Paired (GoodK P w) ls es) : ElemsOf (mixKind P w) es := fun e he => by
  obtain ⟨k, _, h1, h2, h3⟩ := paired_right h e he
  exact ⟨⟨k, h1, h2⟩, h3⟩
/-- the table is stored anew, and grown where it is full -/
theorem setG_tail {gw : Bool → Sem Unit} (hgw : ∀ (b : Bool) (s1 : Shared) (Q1 : Unit → Shared → Prop), Q1 () s1 → wpAny (model P w) A (gw b) Q1 E s1)
    {ob : Obj} {en : Array (Int × Value)} {ep : Nat} {tb : SetTable} (at0 : s.heap.get? a = some ob) (ex : ob.ExactSet) (dt : ob.data = .set en ep tb)
    {en1 : Array (Int × Value)} {tb2 : SetTable} {ls1 ks1 : List Key} (g1 : Paired (GoodK P w) ls1 en1.toList) (p1 : ls1.Perm ks1) (n1 : ks1.Nodup)
    (b1 : en1.size < scanBound) (f2 : tb2.fits en1.size = true) (r2 : L2.Ris tb2.place.toList) (l2 : w.params.followText "set-order" = true ∨ tb2.led = true) {wd : Bool} {R : Option Bool → Shared → Prop}
    (k : ∀ h', Heap.SameBut a s.heap h' → SetG P w h' a ks1 → R (some true) { s with heap := h' }) :
    wpAny (model P w) A (do
      storeSet a en1 tb2
      if (!wd && tb2.tooFull) = true then do
        gw (relayAll tb2 en1 (SetTable.grown en1.size)).2.2
        storeSet a (relayAll tb2 en1 (SetTable.grown en1.size)).1 (relayAll tb2 en1 (SetTable.grown en1.size)).2.1
        pure (some true)
      else pure (some true)) R E s := by
  refine wpAny_bind (wpAny_storeSet_of at0 dt ?_ (fits_of_scanBound b1))
  have at1 := L2.store_at (es' := en1) (t' := tb2) at0 dt
  have sm1 := Heap.SameBut.update s.heap a (Obj.putSet en1 tb2)
  split
  · have fz3 := relayAll_fits tb2 en1 (SetTable.grown en1.size)
    have rz3 := relayAll_ris tb2 en1 (SetTable.grown en1.size)
    have lz3 := relayAll_led tb2 en1 (SetTable.grown en1.size)
    have pz3 := relayAll_perm tb2 en1 (SetTable.grown en1.size)
    generalize relayAll tb2 en1 (SetTable.grown en1.size) = Y at pz3 fz3 rz3 lz3 ⊢
    obtain ⟨en2, tb3, gv⟩ := Y
    dsimp only at pz3 fz3 rz3 lz3 ⊢
    have sz : en2.size = en1.size := by have := pz3.length_eq; rwa [Array.length_toList, Array.length_toList] at this
    have b2 : en2.size < scanBound := sz ▸ b1
    obtain ⟨ls2, a2, g2⟩ := paired_perm pz3 g1
    refine wpAny_bind (hgw _ _ _ (wpAny_bind (wpAny_storeSet_of at1 rfl ?_ (fits_of_scanBound b2))))
    have at2 := L2.store_at (es' := en2) (t' := tb3) at1 rfl
    exact wpAny_pure (k _ (sm1.trans (Heap.SameBut.update _ a _)) ⟨_, en2, _, tb3, ls2, at2, ex, rfl, g2, a2.trans p1, n1, b2, fz3, rz3, l2.imp (fun z => z) fun z => by rw [lz3]; exact z⟩)
  · exact wpAny_pure (k _ sm1 ⟨_, en1, _, tb2, ls1, at1, ex, rfl, g1, p1, n1, b1, f2, r2, l2⟩)
/-- a key is added -/
theorem setG_add {k : Key} {v : Value} {Q : Bool → Shared → Prop} (R : SetG P w s.heap a ks) (kv : (mixKind P w).is k v = true) (sc : v.scannable = true) (room : ks.length + 1 < scanBound)
    (q : ∀ h' ks', Heap.SameBut a s.heap h' → (k ∈ ks → ks' = ks) → (k ∉ ks → ks' = k :: ks) → SetG P w h' a ks' → ∀ b, Q b { s with heap := h' }) :
    wpAny (model P w) A (setAddHashed a v ((mixKind P w).hash k)) Q E s := by
  obtain ⟨ob, en, ep, tb, ls, at0, ex, dt, gd, pm, nd, bd, ft, rs, ld⟩ := R
  have el : ElemsOf (mixKind P w) en.toList := good_all gd
  have nn : en.size = ks.length := by rw [← Array.length_toList, ← paired_len gd, pm.length_eq]
  unfold setAddHashed setAddHashedIn
  refine wpAny_holding (wpAny_bind (wpAny_setState_of at0 dt ft ?_))
  dsimp only
  rw [byScan_of sc bd el]
  simp only [↓reduceIte]
  unfold setAddByScan
  refine wpAny_bind (wpAny_bind (wpAny_rule (wpAny_bind (wpAny_setScan_of kv at0 dt ft el ?_))))
  cases fi : List.findIdx? (fun e => (mixKind P w).is k e.2) en.toList with
  | some j =>
    dsimp only
    obtain ⟨jl, jk, _⟩ := List.findIdx?_eq_some_iff_getElem.mp fi
    obtain ⟨k', hk', g1, _⟩ := paired_right gd _ (List.getElem_mem jl)
    have e1 : k' = k := (mixKind P w).inj _ _ _ g1 jk
    have hk : k ∈ ks := pm.mem_iff.mp (e1 ▸ hk')
    exact wpAny_pure (wpAny_pure (q s.heap ks (Heap.SameBut.refl a s.heap) (fun _ => rfl) (fun z => absurd hk z) ⟨ob, en, ep, tb, ls, at0, ex, dt, gd, pm, nd, bd, ft, rs, ld⟩ _))
  | none =>
    dsimp only
    have hk : k ∉ ks := fun z => by
      obtain ⟨e, he, g1, _⟩ := paired_left gd k (pm.mem_iff.mpr z)
      have c := List.findIdx?_eq_none_iff.mp fi e he
      rw [g1] at c
      cases c
    have gives : ∀ (b : Bool) {s1 : Shared} {Q1 : Unit → Shared → Prop}, Q1 () s1 → wpAny (model P w) A (match b with | true => rule "set.scan.the-table-gave-way" | false => pure ()) Q1 E s1 := fun b s1 Q1 z => by
      cases b with
      | true => exact wpAny_rule z
      | false => exact wpAny_pure z
    have fz1 := layNew_fits tb en ((mixKind P w).hash k) v
    have rz1 := layNew_ris tb en ((mixKind P w).hash k) v rs
    have lz1 := layNew_led tb en ((mixKind P w).hash k) v
    have pz1 := layNew_perm tb en ((mixKind P w).hash k) v
    generalize layNew tb en ((mixKind P w).hash k) v = Y at pz1 fz1 rz1 lz1 ⊢
    obtain ⟨en1, tb1, wd, gv⟩ := Y
    dsimp only at pz1 fz1 rz1 lz1 ⊢
    rw [Array.toList_push] at pz1
    obtain ⟨ls1, a1, g1⟩ := paired_perm (pz1.trans (List.perm_append_singleton _ _)) (Paired.cons (show GoodK P w k ((mixKind P w).hash k, v) from ⟨kv, rfl, sc⟩) gd)
    have p1 : ls1.Perm (k :: ks) := a1.trans (pm.cons k)
    have n1 : (k :: ks).Nodup := List.nodup_cons.mpr ⟨hk, nd⟩
    have sz1 : en1.size < scanBound := by
      have e2 : en1.toList.length = ks.length + 1 := by rw [← paired_len g1, p1.length_eq, List.length_cons]
      rw [Array.length_toList] at e2
      omega
    have ld1 : w.params.followText "set-order" = true ∨ tb1.led = true := ld.imp (fun z => z) fun z => by rw [lz1]; exact z
    have fin : ∀ h', Heap.SameBut a s.heap h' → SetG P w h' a (k :: ks) → Q true { s with heap := h' } := fun h' sb r => q h' _ sb (fun z => absurd z hk) (fun _ => rfl) r true
    refine wpAny_bind (gives _ ?_)
    split
    · refine wpAny_bind ?_
      rw [hashByValue_scannable 8 sc]
      refine wpAny_pure (setG_tail (fun b s1 Q1 z => gives b z) at0 ex dt g1 p1 n1 sz1 ?_ ?_ ?_ ?_)
      · first | exact fz1 | (split <;> first | exact fz1 | exact SetTable.fits_plain_off fz1)
      · first | exact rz1 | (split <;> exact rz1)
      · first | exact ld1 | (split <;> exact ld1)
      · exact fun h' sb r => wpAny_pure (fin h' sb r)
    · refine wpAny_bind (wpAny_pure ?_)
      simp only [↓reduceIte]
      exact setG_tail (fun b s1 Q1 z => gives b z) at0 ex dt g1 p1 n1 sz1 fz1 rz1 ld1 fun h' sb r => wpAny_pure (fin h' sb r)
/-- the keys met so far, each once -/
def MetK (ks : List Key) (i : Nat) (ms : List Key) : Prop := ms.length ≤ i ∧ ∀ k, k ∈ ms ↔ k ∈ ks.take i
/-- what is walked is put into the set, thing by thing -/
theorem set_walk {I : Addr} {fp wr : List Addr} {G : Array GenState → Array GenState → Prop} {n : Nat} {Pv : Nat → Value → Prop} {St : Nat → Shared → Prop} {R : Result → Shared → Prop}
    (W : WalksS P w A.in1 I fp wr G n Pv St) (T : Addr) (off : T ∉ fp) (ks : List Key) (hn : n = ks.length) (room : ks.length + 1 < scanBound) (hv : ∀ i v, Pv i v → ∃ k, ks[i]? = some k ∧ (mixKind P w).is k v = true ∧ v.scannable = true) :
    ∀ (m i : Nat) (s : Shared), n - i = m → i ≤ n → St i s → (∃ ms, MetK ks i ms ∧ SetG P w s.heap T ms) →
      (∀ s' ms, Moved (T :: wr) G s s' → MetK ks n ms → SetG P w s'.heap T ms → R (.ok (.ret .none)) s') →
      codeAny (model P w) A (.builtin "set.update.loop" ⟨[.ref T, .ref I], []⟩) R s := by
  have toff : T ∉ wr := fun z => off (W.sub _ z)
  have more : ∀ b ∈ wr, b ∈ T :: wr := fun b z => List.mem_cons_of_mem _ z
  intro m
  induction m with
  | zero =>
    rintro i s em hi st ⟨ms, met, g⟩ fin
    obtain rfl : i = n := by omega
    refine codeAny_builtin PyProof.Rows.F.entry_set_update_loop ?_
    rw [Around.under_plainId PyProof.Rows.F.plain_set_update_loop _]
    show wpAny _ A.in1 (pyNext (.ref I) >>= _) _ _ s
    refine wpAny_bind (W.done s _ _ st fun s' mv => ?_)
    show wpAny _ A.in1 (ret Value.none) _ _ s'
    exact wpAny_pure (fin s' ms (mv.mono more) met (g.at fun o e => mv.heap T o toff e))
  | succ m ih =>
    rintro i s em hi st ⟨ms, met, g⟩ fin
    have lt : i < n := by omega
    refine codeAny_builtin PyProof.Rows.F.entry_set_update_loop ?_
    rw [Around.under_plainId PyProof.Rows.F.plain_set_update_loop _]
    show wpAny _ A.in1 (pyNext (.ref I) >>= _) _ _ s
    refine wpAny_bind (W.item i s _ _ lt st fun v s' pv st' mv => ?_)
    obtain ⟨k, ek, kv, sc⟩ := hv i v pv
    have g' : SetG P w s'.heap T ms := g.at fun o e => mv.heap T o toff e
    show wpAny _ A.in1 (holding [v] (setAdd T v) >>= _) _ _ s'
    refine wpAny_bind (wpAny_holding ?_)
    unfold setAdd
    refine wpAny_holding (wpAny_bind ((mixKind P w).pyHash kv ?_))
    refine setG_add (s := { s' with toks := s'.toks + 1 }) g' kv sc (by have := met.1; omega) fun h' ms' sb y1 y2 g2 b => ?_
    have met' : MetK ks (i + 1) ms' := by
      unfold MetK
      rw [List.take_add_one, ek]
      by_cases z : k ∈ ms
      · rw [y1 z]
        refine ⟨by have := met.1; omega, fun x => ?_⟩
        rw [List.mem_append, ← met.2 x]
        exact ⟨.inl, fun c => c.elim (fun c => c) fun c => by rw [List.mem_singleton.mp (show x ∈ [k] from c)]; exact z⟩
      · rw [y2 z]
        refine ⟨by have := met.1; rw [List.length_cons]; omega, fun x => ?_⟩
        rw [List.mem_append, ← met.2 x, List.mem_cons]
        exact ⟨fun c => c.elim (fun c => .inr (by rw [c]; exact List.mem_singleton.mpr rfl)) .inl, fun c => c.elim .inr fun c => .inl (List.mem_singleton.mp (show x ∈ [k] from c))⟩
    refine wpAny_pure ⟨plainId_quiet PyProof.Rows.F.plain_set_update_loop _, ih (i + 1) _ (by omega) lt (W.frame _ s' _ _ st' (Nat.le_succ _) fun b hb o e => ?_) ⟨ms', met', g2⟩ fun s2 ms2 mv2 met2 g3 => ?_⟩
    · rw [sb.2 b (fun z : b = T => off (z ▸ hb))]; exact e
    · refine fin s2 ms2 (Moved.trans W.gtrans ((mv.mono more).then_heap (Nat.le_succ _) fun b o hb e => ?_) mv2) met2 g3
      rw [sb.2 b (fun z : b = T => hb (by rw [z]; exact List.mem_cons_self))]; exact e
theorem setG_new {h : Heap} {a : Addr} (at0 : h.get? a = some { cls := .type "set", dict := none, data := .set #[] 0 (.fresh 0 0 (!w.params.followText "set-order")) }) : SetG P w h a [] :=
  ⟨_, #[], 0, _, [], at0, ⟨rfl, rfl, rfl⟩, rfl, .nil, .nil, List.nodup_nil, by decide, by rfl, List.Pairwise.nil, by
    show _ ∨ (!w.params.followText "set-order") = true
    cases w.params.followText "set-order" with
    | true => exact .inl rfl
    | false => exact .inr rfl⟩
/-- what is handed to set(): a list or a tuple of these -/
def SeqIs (tp : Bool) (h : Heap) (l : Addr) (its : Array Value) : Prop := match tp with
  | true => h.IsTuple l its
  | false => h.IsList l its
set_option maxRecDepth 100000 in
set_option maxHeartbeats 3200000 in
theorem call_setL {l : Addr} {its : Array Value} (ks : List Key) {Q : Value → Shared → Prop} (hh : A.handled = none) (isl : s.heap.IsList l its) (len : its.size = ks.length) (room : ks.length + 1 < scanBound)
    (hv : ∀ (i : Nat) (v : Value), its[i]? = some v → ∃ k : Key, ks[i]? = some k ∧ (mixKind P w).is k v = true ∧ v.scannable = true)
    (q : ∀ (h' : Heap) (tk : Nat) (ms : List Key), SetG P w h' s.heap.objs.size ms → MetK ks ks.length ms → (∀ b o, s.heap.get? b = some o → h'.get? b = some o) → Q (.ref s.heap.objs.size) { s with heap := h', toks := tk }) :
    wpAny (model P w) A (call (.type "set") [.ref l]) Q E s := by
  obtain ⟨newO, eNew⟩ : ∃ ob : Obj, ob = { cls := .type "set", dict := none, data := .set #[] 0 (.fresh 0 0 (!w.params.followText "set-order")) } := ⟨_, rfl⟩
  obtain ⟨c, tl, hmro⟩ := PySem.F.called_set.mro
  have f1 := PySem.F.called_set.made
  have f2 := PySem.F.called_set.sub
  refine wpAny_call (codeAny_of_tree (show wpAny _ _ (callAny (.type "set") _) _ _ _ from ?_))
  refine wpAny_pure ⟨Code.quiet_builtin _ (by decide +kernel), codeAny_builtin PySem.F.entry_type_call ?_⟩
  rw [Around.under_plain (weight_type_call_type "set" [.ref l] []) rfl]
  have f3 := PySem.F.called_set.notType
  have f4 := PySem.F.called_set.canCreate
  have f5 := PySem.F.typeCall_set_1 (.ref l)
  repeat (any_goals (first | assumption | wp_step))

  refine codeAny_mono (code_set_led1 (.ref l) (E := E) (Q₁ := fun ob s1 => ob = .ref s.heap.objs.size ∧ s1 = { s with heap := s.heap.push newO }) ⟨rfl, by rw [eNew]⟩) fun r s1 hr => ?_
  cases r with
  | error e => exact hr
  | ok fl =>
    cases fl with
    | ret ob =>
      obtain ⟨rfl, rfl⟩ := hr
      have nf : newO.isFreed = false := by rw [eNew]; rfl
      have at0 : (s.heap.push newO).get? s.heap.objs.size = some newO := Heap.get?_push_size _ nf
      have ty0 : Shared.TypeIs { s with heap := s.heap.push newO } (.ref s.heap.objs.size) "set" := ⟨_, at0, by rw [eNew]⟩
      have f6 := PySem.F.called_set.init.lookup
      have f7 := PySem.F.called_set.init.bind (.ref s.heap.objs.size)
      repeat (any_goals (first | assumption | wp_step))

      refine codeAny_mono (codeAny_call_builtin (R := wants (fun r s2 => r = .none ∧ ∃ h' tk ms, s2 = { s with heap := h', toks := tk } ∧ SetG P w h' s.heap.objs.size ms ∧ MetK ks ks.length ms ∧ (∀ b o, s.heap.get? b = some o → h'.get? b = some o)) E) PySem.F.called_set.init.plain PySem.F.entry_set_init (check_set_init_1 ty0 ?_)) fun r2 s2 hr2 => ?_
      · obtain ⟨⟨ocl, odi, oda, osl⟩, atl, ecl, nl, eda⟩ := isl
        simp only at ecl eda
        subst ecl; subst eda
        have atl' : (s.heap.push newO).get? l = some { cls := .type "list", dict := odi, data := .seq its nl, slots := osl } := Heap.get?_push_of_some _ atl
        have f8 := PySem.F.sub_list_set
        have f9 := PySem.F.sub_list_frozenset
        have f10 : (Value.type "list" == Value.type "dict") = false := by decide
        have isl1 : (s.heap.push newO).IsList l its := ⟨_, atl', rfl, nl, rfl⟩
        subst eNew; unfold Builtin.«set.__init__» noKeywords Builtin.Frozenset.updateFrom
        generalize ePI : pyIter = PI
        wp_walk
        subst ePI

        refine wpAny_pyIter_list isl1 ?_; refine wpAny_bind (wpAny_runValue ?_)
        have ll : l < s.heap.objs.size := Heap.lt_size atl
        have hh3 : A.in1.in1.in1.handled = none := by simp [hh]
        have psz : ∀ ob : Obj, (s.heap.push ob).objs.size = s.heap.objs.size + 1 := fun ob => Heap.size_push ..
        have offs : ∀ n : Nat, n = s.heap.objs.size + 1 → s.heap.objs.size ∉ [n, l] := fun n hn => by
          simp only [List.mem_cons, List.not_mem_nil, or_false, not_or]
          exact ⟨fun z => Nat.ne_of_lt (Nat.lt_succ_self _) (z.trans hn), Nat.ne_of_gt ll⟩
        refine set_walk ((Walks.list hh3 _ l (by rw [psz]; exact Nat.ne_of_lt (Nat.lt_succ_of_lt ll)) its).toS) s.heap.objs.size (offs _ (psz _)) ks len room hv (its.size - 0) 0 _ (by omega) (Nat.zero_le _) ⟨⟨_, Heap.get?_push_size _ rfl, rfl, rfl⟩, (isl1.push _)⟩ ?start ?fin
        case start =>
          exact ⟨[], ⟨Nat.le_refl _, fun x => by simp⟩, setG_new (Heap.get?_push_of_some _ at0)⟩
        case fin =>
          intro s3 ms mv met g
          obtain ⟨h3, g3, d3, t3, o3⟩ := s3
          obtain rfl : g3 = s.gens := mv.gens
          obtain rfl : d3 = s.drawn := mv.drawn
          obtain rfl : o3 = s.os := mv.os
          refine wpAny_pure (show wpAny _ _ (ret Value.none) _ _ _ from wpAny_pure ⟨rfl, h3, t3, ms, rfl, g, len ▸ met, fun b o e => ?_⟩)
          have bl : b < s.heap.objs.size := Heap.lt_size e
          refine mv.heap b o ?_ (Heap.get?_push_of_some _ (Heap.get?_push_of_some _ e))
          simp only [List.mem_cons, List.mem_singleton, List.not_mem_nil, or_false, not_or]
          exact ⟨Nat.ne_of_lt bl, by rw [psz]; exact Nat.ne_of_lt (Nat.lt_succ_of_lt bl)⟩

      · cases r2 with
        | error e => exact hr2
        | ok fl2 =>
          cases fl2 with
          | ret r =>
            obtain ⟨rfl, h', tk, ms, rfl, g, met, kp⟩ := hr2
            repeat (any_goals (first | assumption | wp_step))
            exact q _ _ ms g met kp
          | _ => exact hr2.elim
    | _ => exact hr.elim
end
end DL

/-! len(set(l)), sorted(set(l)) of numbers and texts -/
namespace DL
open PySem PySem.Spec PyProof.Rows L2
section
open PySem.W PySem.Calls PySem.SeqAt
variable {prog : Program} {w : World} {A : Around} {s : Shared}
/-- sorted(x) of what can be collected -/
theorem sorted_genD {β : Type} {C : List β → Prop} {enc : β → PyData} {R : Value → β → Prop} {E : Value → Shared → Prop} {x : Value} {Q : Value → Shared → Prop}
    (hc : ∀ (E' : Value → Shared → Prop) (Q' : List Value → Shared → Prop), (∀ vs h1 tk dr bs, C bs → (∀ b o, s.heap.get? b = some o → h1.get? b = some o) → EachIs R vs bs → Q' vs { s with heap := h1, toks := tk, drawn := dr }) → wpAny (model prog w) A.in1 (collect x) Q' E' s)
    (hr : ∀ v b, R v b → ∃ as, Reads s.heap v (enc b) as) (hal : ∀ bs, C bs → AllAlike (bs.map enc))
    (hk : ∀ bs, C bs → Sortable (bs.map enc) ∨ ∀ d, d ∈ bs.map enc → ∃ xs, d = .tuple xs) (hL : ∀ bs, C bs → bs.length ≤ sizeLine) (hu : ∀ bs, C bs → ∀ b, b ∈ bs → A.units + 2 + (enc b).depth < cLine)
    (h : ∀ out d (h1 h2 : Heap) tk dr bs, C bs → (∀ b o, s.heap.get? b = some o → h1.get? b = some o) → (∀ b o, h1.get? b = some o → h2.get? b = some o) → h1.objs.size ≤ d → (∃ c, h2.get? d = some (seqObj "list" (List.toArray out) c)) → EachIs R out (bs.mergeSort (dataLe false enc)) → Q (.ref d) { s with heap := h2, toks := tk, drawn := dr }) :
    wpAny (model prog w) A (call (.builtin "sorted") [x]) Q E s := by
  refine Calls.call_function_entry kind_sorted plain_sorted entry_sorted (args_sorted1 _) ?_
  unfold Builtin.«sorted»
  refine wpAny_bind (m := checkCount "sorted" 1 1 _) (wpAny_pure ?_)
  refine wpAny_bind (hc _ _ fun vs h1 tk dr bs cb keep e => ?_)
  have hlv : vs.length = bs.length := e.length
  refine wpAny_bind (wpAny_newList ?_ (by rw [hlv]; exact hL bs cb))
  have hoL : (h1.push (seqObj "list" vs.toArray 0)).get? h1.objs.size = some (seqObj "list" vs.toArray 0) := Heap.get?_push_size _ rfl
  have old : ∀ b o, s.heap.get? b = some o → b ≠ h1.objs.size ∧ (h1.push (seqObj "list" vs.toArray 0)).get? b = some o := fun b o q => by
    have q1 := keep b o q
    exact ⟨Nat.ne_of_lt (Heap.lt_size q1), Heap.get?_push_of_some _ q1⟩
  show wpAny _ _ _ _ _ { s with heap := h1.push (seqObj "list" vs.toArray 0), toks := tk, drawn := dr }
  have er : EachIs (fun v b => ∃ as, Reads (sortingHeap (h1.push (seqObj "list" vs.toArray 0)) h1.objs.size vs) v (enc b) as) vs bs := e.mono fun v b q => by
    obtain ⟨as, r⟩ := hr v b q
    exact ⟨as, PyProof.Rows.Reads.keeps (fun b o z => sortingHeap_old (old b o z).1 (old b o z).2) r⟩
  have S : SortsAt prog w A.in1.in1 { s with heap := sortingHeap (h1.push (seqObj "list" vs.toArray 0)) h1.objs.size vs, toks := tk, drawn := dr } (dataKind (sortingHeap (h1.push (seqObj "list" vs.toArray 0)) h1.objs.size vs) (bs.map enc)) vs := by
    have e2 := each_map (R := fun v d => ∃ as, Reads (sortingHeap (h1.push (seqObj "list" vs.toArray 0)) h1.objs.size vs) v d as) enc er
    have hu2 : ∀ d, d ∈ bs.map enc → A.in1.in1.units + d.depth < cLine := bound_map (hu bs cb)
    rcases hk bs cb with hk | hk
    · exact SortsAt.data (s := { s with heap := sortingHeap (h1.push (seqObj "list" vs.toArray 0)) h1.objs.size vs, toks := tk, drawn := dr }) e2 (hal bs cb) hk hu2
    · exact sortsAt_tups (s := { s with heap := sortingHeap (h1.push (seqObj "list" vs.toArray 0)) h1.objs.size vs, toks := tk, drawn := dr }) e2 (hal bs cb) hk hu2
  refine wpAny_bind (wpAny_holding (wpAny_call_entry slot_list_sort ⟨_, hoL, rfl⟩ entry_list_sort (list_sort_vals (s := { s with heap := h1.push (seqObj "list" vs.toArray 0), toks := tk, drawn := dr }) hoL S (by rw [hlv]; exact hL bs cb) ⟨_, rfl, ?_⟩) (args_list_sort _)))
  refine wpAny_pure ⟨_, rfl, ?_⟩
  refine h _ h1.objs.size h1 _ tk dr bs cb keep (fun b o q => ?_) (Nat.le_refl _) (PyProof.Rows.sortedHeap_at (vs := vs) (out := (List.toArray _)) hoL) (sortVals_data false e er (hal bs cb))
  have q2 : (h1.push (seqObj "list" vs.toArray 0)).get? b = some o := Heap.get?_push_of_some _ q
  rw [PyProof.Rows.sortedHeap_old (Nat.ne_of_lt (Heap.lt_size q)) (Heap.lt_size q2)]
  exact q2
end
/-! ### keys in order -/
def tokK : Key → Int ⊕ List Nat
  | .inl i => .inl i
  | .inr x => .inr x.cps.toList
theorem tokK_inj : ∀ {a b : Key}, tokK a = tokK b → a = b
  | .inl i, .inl j, h => by injection h with h; rw [h]
  | .inr x, .inr y, h => by injection h with h; rw [PySem.W.str_of_cps h]
  | .inl _, .inr _, h => nomatch h
  | .inr _, .inl _, h => nomatch h
theorem keyD_lt (a b : Key) : D.lt (keyD a) (keyD b) = PyProof.Rows.lexLt itemOrd [tokK a] [tokK b] := by cases a <;> cases b <;> rfl
def leK (a b : Key) : Bool := D.le (keyD a) (keyD b)
theorem leK_total (a b : Key) : (leK a b || leK b a) = true := by
  unfold leK D.le
  rw [keyD_lt, keyD_lt]
  cases h : PyProof.Rows.lexLt itemOrd [tokK b] [tokK a] with
  | false => rfl
  | true =>
    cases k : PyProof.Rows.lexLt itemOrd [tokK a] [tokK b] with
    | false => rfl
    | true => have := PyProof.Rows.lex_trans _ _ _ h k; rw [PyProof.Rows.lex_irrefl] at this; cases this
theorem leK_trans (a b c : Key) (h : leK a b = true) (k : leK b c = true) : leK a c = true := by
  unfold leK D.le at *
  rw [keyD_lt] at *
  cases q : PyProof.Rows.lexLt itemOrd [tokK c] [tokK a] with
  | false => rfl
  | true =>
    rcases PyProof.Rows.lex_negTrans _ [tokK b] _ q with z | z
    · rw [z] at k; cases k
    · rw [z] at h; cases h
theorem leK_anti {a b : Key} (h : leK a b = true) (k : leK b a = true) : a = b := by
  unfold leK D.le at *
  rw [keyD_lt] at *
  have := PyProof.Rows.lex_total _ _ (by simpa using k) (by simpa using h)
  exact tokK_inj (by injection this)
def sortKy (ks : List Key) : List Key := ks.mergeSort leK
theorem sortKy_up (ks : List Key) : (sortKy ks).Pairwise (fun a b => leK a b = true) := List.pairwise_mergeSort leK_trans leK_total ks
theorem sortKy_perm (ks : List Key) : (sortKy ks).Perm ks := List.mergeSort_perm ks leK
theorem sortKy_ext {ks ls : List Key} (p : ks.Perm ls) : sortKy ks = sortKy ls :=
  List.Perm.eq_of_pairwise (le := fun a b => leK a b = true) (fun a b _ _ h k => leK_anti h k) (sortKy_up ks) (sortKy_up ls) (((sortKy_perm ks).trans p).trans (sortKy_perm ls).symm)
theorem sortKy_id {ks : List Key} (h : ks.Pairwise (fun a b => leK a b = true)) : sortKy ks = ks :=
  List.Perm.eq_of_pairwise (le := fun a b => leK a b = true) (fun a b _ _ h k => leK_anti h k) (sortKy_up ks) h (sortKy_perm ks)
theorem sortD_keys (ks : List Key) : sortD (ks.map keyD) = (sortKy ks).map keyD := by
  unfold sortD sortKy
  rw [List.map_mergeSort]
  intro a _ b _
  rfl
theorem nubK_mem {k : Key} : ∀ {ks : List Key}, k ∈ nubK ks ↔ k ∈ ks
  | [] => Iff.rfl
  | x :: r => by
    unfold nubK
    have ih := nubK_mem (k := k) (ks := r)
    split
    · rename_i h
      rw [ih, List.mem_cons]
      exact ⟨.inr, fun z => z.elim (fun z => by rw [z]; exact nubK_mem.mp h) fun z => z⟩
    · rw [List.mem_cons, List.mem_cons, ih]
theorem nubK_nodup : ∀ ks : List Key, (nubK ks).Nodup
  | [] => List.nodup_nil
  | x :: r => by
    unfold nubK
    split
    · exact nubK_nodup r
    · rename_i h; exact List.nodup_cons.mpr ⟨h, nubK_nodup r⟩
theorem nubK_len : ∀ ks : List Key, (nubK ks).length ≤ ks.length
  | [] => Nat.le_refl _
  | x :: r => by
    unfold nubK
    have := nubK_len r
    split <;> simp <;> omega
theorem met_perm {ks ms : List Key} (h : MetK ks ks.length ms) (nd : ms.Nodup) : ms.Perm (nubK ks) := by
  classical
  refine (List.perm_ext_iff_of_nodup nd (nubK_nodup ks)).mpr fun k => ?_
  rw [h.2 k, List.take_length, nubK_mem]
/-- all of one kind -/
def KindK (ks : List Key) : Prop := (∀ k ∈ ks, ∃ i, k = .inl i) ∨ ∀ k ∈ ks, ∃ x, k = .inr x ∧ PyData.strOk x = true
theorem sortOk_keys {ks : List Key} (hl : ks.length ≤ sizeLine) (hk : KindK ks) : SortOk (ks.map keyD) := by
  refine ⟨by rw [List.length_map]; exact hl, fun d hd => ?_, fun d hd d' hd' => ?_, .inr fun d hd => ?_⟩
  · obtain ⟨k, h, rfl⟩ := List.mem_map.mp hd
    rcases hk with hk | hk
    · obtain ⟨i, rfl⟩ := hk k h; rfl
    · obtain ⟨x, rfl, z⟩ := hk k h; exact z
  · obtain ⟨k, h, rfl⟩ := List.mem_map.mp hd
    obtain ⟨k', h', rfl⟩ := List.mem_map.mp hd'
    rcases hk with hk | hk
    · obtain ⟨i, rfl⟩ := hk k h; obtain ⟨j, rfl⟩ := hk k' h'; rfl
    · obtain ⟨x, rfl, z⟩ := hk k h; obtain ⟨y, rfl, z'⟩ := hk k' h'; rfl
  · obtain ⟨k, h, rfl⟩ := List.mem_map.mp hd
    cases k <;> exact ⟨by simp [keyD], by intros; simp [keyD], by intros; simp [keyD]⟩
/-! ### the rules -/
theorem rel_kv {k : Key} {v : Value} (h : keyIs k v = true) : RelV (kV k) v := by
  rcases keyIs_shape h with ⟨i, t, rfl, rfl⟩ | ⟨x, t, rfl, rfl⟩
  · exact ⟨t, rfl⟩
  · exact ⟨t, rfl⟩
def D.key : D → Option Key
  | .int i => some (.inl i)
  | .str x => some (.inr x)
  | _ => none
def D.keys : List D → Option (List Key)
  | [] => some []
  | d :: r => match d.key, D.keys r with
    | some k, some ks => some (k :: ks)
    | _, _ => none
theorem keys_rep {K : PySem.W.Frag} {G : Hp} : ∀ {ds : List D} {ks : List Key} {vs : List V}, D.keys ds = some ks → RepL K G ds vs → vs = ks.map kV
  | [], ks, vs, h, r => by cases h; exact r
  | d :: ds, ks, vs, h, r => by
    obtain ⟨v, r', rfl, a, b⟩ := r
    unfold D.keys at h
    cases hd : d.key with
    | none => rw [hd] at h; cases h
    | some k =>
      cases hs : D.keys ds with
      | none => rw [hd, hs] at h; cases h
      | some ls =>
        rw [hd, hs] at h
        cases h
        rw [keys_rep hs b]
        cases d <;> cases hd <;> (rw [show v = _ from a]; rfl)
theorem vals_at {ks : List Key} : ∀ {l : List Key} {us : List Value}, Vals (l.map kV) us → ∀ (i : Nat) (v : Value), us[i]? = some v → ∃ k : Key, l[i]? = some k ∧ RelV (kV k) v
  | [], _, .nil, i, v, h => by simp at h
  | k :: l, _, .cons r t, 0, v, h => by cases h; exact ⟨k, rfl, r⟩
  | k :: l, _, .cons r t, i + 1, v, h => by
    obtain ⟨k', h1, h2⟩ := vals_at (ks := ks) t i v (by simpa using h)
    exact ⟨k', by simpa using h1, h2⟩
def mostK : Nat := 4000
section
variable {X : Cx} {W : WX} {A : Nat → Prop} {a : Expr} {p p2 q pos : Pos}
/-- a set made of a list of keys, and what is done with it -/
def tSetK (K : PySem.W.Frag) (ta : TE) (g : List Key → VK → Hp → Prop) : TE := fun σ H Q => ta σ H fun x H1 => ∃ (l : Addr) (ks : List Key), x = V.ref l ∧ SqL K H1 l (ks.map kV) ∧ ks.length ≤ mostK ∧ g ks Q H1
theorem pe_overSet {fn : Str} {f : Value} {id : String} {ta : TE} {g : List Key → VK → Hp → Prop} (hc : X.calm = true) (hg : Gl X fn) (hm : X.mg fn = none) (hb : bootBuiltins fn = some (.builtin id)) (hg2 : Gl X "set") (hm2 : X.mg "set" = none) (hn : fn ≠ "__name__") (hdb : (fn == ("__debug__" : Str)) = false)
    (run : ∀ (pins : List (Addr × Obj)) (s : Shared) (σ : L2.St) (H : Hp) (T : Addr) (ks ms : List Key) (Q : VK), Inv X pins σ H s → SetG X.prog X.w s.heap T ms → ms.Perm (nubK ks) → ks.length ≤ mostK → g ks Q H → wpAny (model X.prog X.w) X.A (call (.builtin id) [.ref T]) (EP X pins σ Q) X.xe s)
    (ha : PE X a ta) (na : starEach [a] X.env = (false, eval a X.env) :: starEach [] X.env := by rfl) : PE X (.Call (.Name fn p) [.Call (.Name "set" p2) [a] [] q] [] pos) (tSetK X.K ta g) := by
  refine ⟨fun pins s σ H Q I h => ?_⟩
  refine Call_ (ld_blt I hg hm hb ?_ hn hdb)
  refine PyProof.Rows.callWith_builtin1 (PyProof.Rows.args_cons (Call_ (ld_blt I hg2 hm2 boot_set ?_)) rfl) rfl rfl
  refine PyProof.Rows.callWith_type1 (PyProof.Rows.args_cons (thn (ha.run pins s σ H _ I h) fun v s1 ⟨x, H1, I1, r1, q1⟩ => PyProof.Rows.args_nil ?_) na) na rfl
  obtain ⟨l, ks, rfl, hq, h1, q1⟩ := q1
  cases r1
  obtain ⟨its, r, pl, hz⟩ := I1.list hq
  have hl : its.toArray.size = ks.length := by rw [List.size_toArray, ← r.length, List.length_map]
  refine call_setL ks (I1.ok.hd hc) pl.isList hl (by unfold mostK at h1; unfold scanBound; omega) (fun i v hv => ?_) fun h' tk ms hS met hk => PyProof.Rows.args_nil ?_
  · obtain ⟨k, e1, e2⟩ := vals_at (ks := ks) r i v (by simpa using hv)
    exact ⟨k, e1, kV_is e2, key_scan e2⟩
  · have nd : ms.Nodup := by obtain ⟨_, _, _, _, _, _, _, _, _, _, n, _⟩ := hS; exact n
    exact run pins _ σ H1 _ ks ms Q (I1.kept (t' := tk) fun b o e => hk b o e) hS (met_perm met nd) h1 q1
theorem pe_lenSetK {ta : TE} (hc : X.calm = true) (hg : Gl X "len") (hm : X.mg "len" = none) (hg2 : Gl X "set") (hm2 : X.mg "set" = none) (ha : PE X a ta) (na : starEach [a] X.env = (false, eval a X.env) :: starEach [] X.env := by rfl) :
    PE X (.Call (.Name "len" p) [.Call (.Name "set" p2) [a] [] q] [] pos) (tSetK X.K ta fun ks Q H => Q (.int ((nubK ks).length : Nat)) H) :=
  pe_overSet (f := .none) hc hg hm boot_len hg2 hm2 (by decide) (by decide) (fun pins s σ H T ks ms Q I hS pm hl q => by
    obtain ⟨o, es, ep, t, ls, ho, hex, hd, hp, lp, nd, hb, hf, _⟩ := hS
    have e1 : es.size = (nubK ks).length := by rw [← Array.length_toList, ← paired_len hp, lp.length_eq, pm.length_eq]
    refine call_len_set ho hex hd hf (by have := nubK_len ks; unfold mostK at hl; omega) ⟨.int ((nubK ks).length : Nat), H, I.tok _, ⟨_, by rw [e1]⟩, q⟩) ha na
theorem pe_sortSetK {ta : TE} (hc : X.calm = true) (hu : X.A.units + 64 < cLine) (hg : Gl X "sorted") (hm : X.mg "sorted" = none) (hg2 : Gl X "set") (hm2 : X.mg "set" = none) (ha : PE X a ta) (na : starEach [a] X.env = (false, eval a X.env) :: starEach [] X.env := by rfl) :
    PE X (.Call (.Name "sorted" p) [.Call (.Name "set" p2) [a] [] q] [] pos) (tSetK X.K ta fun ks Q H => KindK ks ∧ ∀ p, H p = none → Q (.ref p) (upd H p (.lst ((sortKy (nubK ks)).map kV)))) :=
  pe_overSet (f := .none) hc hg hm boot_sorted hg2 hm2 (by decide) (by decide) (fun pins s σ H T ks ms Q I hS pm hl ⟨kd, q⟩ => by
    obtain ⟨o, es, ep, t, ls, ho, hex, hd, hp, lp, nd, hb, hf, hr, hled⟩ := hS
    have kdm : ∀ l : List Key, l.Perm (nubK ks) → KindK l ∧ l.length ≤ sizeLine := fun l pl => by
      have mem : ∀ k ∈ l, k ∈ ks := fun k h => nubK_mem.mp (pl.mem_iff.mp h)
      refine ⟨kd.imp (fun z k h => z k (mem k h)) fun z k h => z k (mem k h), ?_⟩
      have := nubK_len ks
      rw [pl.length_eq, PySem.sizeLine_eq]
      unfold mostK at hl
      omega
    have ok : ∀ l : List Key, l.Perm (nubK ks) → SortOk (l.map keyD) := fun l pl => sortOk_keys (kdm l pl).2 (kdm l pl).1
    have emp : ∀ l : List Key, (l.map fun k => (keyD k).py) = (l.map keyD).map D.py := fun l => by rw [List.map_map]; rfl
    refine sorted_genD (C := fun l => l.Perm (nubK ks)) (R := fun v k => RelV (kV k) v) (enc := fun k => (keyD k).py) (fun E' Q' hq => ?_) (fun v k h => ?_) (fun l pl => ?_) (fun l pl => ?_) (fun l pl => (kdm l pl).2) (fun l pl k hk => ?_) fun out d h1 h2 tk dr l pl keep keep2 hd hat e => ?_
    · refine collect_set (A := X.A.in1) (I.ok.hd hc) ⟨o, ho, hex.1, hd⟩ hf hb hr hled fun s' out kp hz hg ho' pm' => ?_
      obtain ⟨l1, p1, g1⟩ := paired_perm pm' (l := ls) (F := fun k v => (mixKind X.prog X.w).is k v = true) (by
        clear kdm ok emp
        have : ∀ {l : List Key} {e : List (Int × Value)}, Paired (GoodK X.prog X.w) l e → Paired (fun k v => (mixKind X.prog X.w).is k v = true) l (e.map (·.2)) := by
          intro l e h
          induction h with
          | nil => exact .nil
          | cons a t ih => exact .cons a.1 ih
        exact this hp)
      obtain ⟨h1, g1', d1, t1, o1⟩ := s'
      obtain rfl : g1' = s.gens := hg
      obtain rfl : o1 = s.os := ho'
      refine hq out h1 t1 d1 l1 (p1.trans (lp.trans pm)) kp ?_
      have each : ∀ {l : List Key} {vs : List Value}, Paired (fun k v => (mixKind X.prog X.w).is k v = true) l vs → PySem.W.EachIs (fun v k => RelV (kV k) v) vs l := by
        intro l vs h
        induction h with
        | nil => exact .nil
        | cons a t ih => exact .cons (rel_kv a) ih
      exact each g1
    · cases k with
      | inl i => exact Dp.reads I (.int i) (.int i) v (.int i) h
      | inr x => exact Dp.reads I (.str x) (.str x) v (.str x) h
    · rw [emp]; exact (ok l pl).alike
    · rw [emp]; exact (ok l pl).kind
    · have : ((keyD k).py).depth ≤ 1 := by cases k <;> simp [keyD, D.py, PyData.depth]
      omega
    · have rs : ∃ ys, Vals ys out ∧ ys = (sortKy (nubK ks)).map kV := by
        have ev : ∀ {vs : List Value} {l : List Key}, PySem.W.EachIs (fun v k => RelV (kV k) v) vs l → Vals (l.map kV) vs := by
          intro vs l h
          induction h with
          | nil => exact .nil
          | cons a t ih => exact .cons a ih
        refine ⟨_, ev e, ?_⟩
        congr 1
        have : l.mergeSort (PySem.W.dataLe false fun k => (keyD k).py) = sortKy l := by
          unfold sortKy
          congr 1
        rw [this]
        exact sortKy_ext pl
      obtain ⟨ys, r1, r2⟩ := rs
      subst r2
      obtain ⟨c, hat⟩ := hat
      have hlen : ((sortKy (nubK ks)).map kV).length ≤ sizeLine := by rw [List.length_map, (sortKy_perm _).length_eq]; exact (kdm _ (.refl _)).2
      have eg : ∀ b o, s.heap.get? b = some o → h2.get? b = some o := fun b o e => keep2 b o (keep b o e)
      have J := I.call (h' := h1) (g' := s.gens) (d' := dr) (t' := tk) (ch := []) (Un.kept keep) (I.hok.kept keep) I.bare (fun _ z => nomatch z)
      exact ⟨.ref d, upd H d (.lst ((sortKy (nubK ks)).map kV)), J.laid (t' := tk) keep2 hd ⟨hlen, out, c, r1, hat⟩, rfl, q d (J.hok.fresh hd)⟩) ha na
end
end DL

/-! len(set(l)), sorted(set(l)), max(l, default=c) over data -/
namespace DL
open PySem PySem.Spec PyProof.Rows L2
section
variable {X : Cx} {W : WX} {A : Nat → Prop} {a : Expr} {p p2 q pos : Pos}
noncomputable def dLenSet : D → Res D
  | .lst xs => match D.keys xs with
    | some ks => if ks.length ≤ mostK then .ok (.int ((nubK ks).length : Nat)) else .bad
    | none => .bad
  | _ => .bad
theorem keys_of_rep {K : PySem.W.Frag} {H : Hp} {a : Addr} {vs : List V} {ks : List Key} (s : SqL K H a vs) (e : vs = ks.map kV) : SqL K H a (ks.map kV) := e ▸ s
theorem de_lenSet {f : DL.Env → Res D} (hc : X.calm = true) (hg : Gl X "len") (hm : X.mg "len" = none) (hg2 : Gl X "set") (hm2 : X.mg "set" = none) (ha : DR X W A a f) (na : starEach [a] X.env = (false, eval a X.env) :: starEach [] X.env := by rfl) :
    DE X W A (.Call (.Name "len" p) [.Call (.Name "set" p2) [a] [] q] [] pos) (e1 dLenSet f) :=
  (pe_lenSetK hc hg hm hg2 hm2 ha na).imp fun σ H Q ⟨e, G, E, h⟩ => ⟨e, G, E, h.split.imp fun d H1 G1 x1 q1 v rv => by
    cases d with
    | lst xs =>
      obtain ⟨b, vs, rfl, s, r⟩ := rv
      dsimp only [dLenSet] at q1
      cases hk : D.keys xs with
      | none => rw [hk] at q1; exact q1.elim
      | some ks =>
        rw [hk] at q1
        dsimp only at q1
        by_cases hl : ks.length ≤ mostK
        · rw [if_pos hl] at q1
          exact ⟨b, ks, rfl, keys_of_rep s (keys_rep hk r), hl, PostG.val (d := .int ((nubK ks).length : Nat)) q1 x1.gh rfl⟩
        · rw [if_neg hl] at q1; exact q1.elim
    | _ => exact (show False from q1).elim⟩
open Classical in
noncomputable def dSortSet : D → Res D
  | .lst xs => match D.keys xs with
    | some ks => if ks.length ≤ mostK ∧ KindK ks then .ok (.lst ((sortKy (nubK ks)).map keyD)) else .bad
    | none => .bad
  | _ => .bad
theorem repL_keys {K : PySem.W.Frag} {G : Hp} : ∀ ks : List Key, RepL K G (ks.map keyD) (ks.map kV)
  | [] => rfl
  | .inl i :: ks => ⟨_, _, rfl, rfl, repL_keys ks⟩
  | .inr x :: ks => ⟨_, _, rfl, rfl, repL_keys ks⟩
theorem df_sortSet {f : DL.Env → Res D} (hc : X.calm = true) (hu : X.A.units + 64 < cLine) (hg : Gl X "sorted") (hm : X.mg "sorted" = none) (hg2 : Gl X "set") (hm2 : X.mg "set" = none) (ha : DR X W A a f) (na : starEach [a] X.env = (false, eval a X.env) :: starEach [] X.env := by rfl) :
    DF X W A (.Call (.Name "sorted" p) [.Call (.Name "set" p2) [a] [] q] [] pos) (e1 dSortSet f) :=
  (pe_sortSetK hc hu hg hm hg2 hm2 ha na).imp fun σ H Q ⟨e, G, E, h⟩ => ⟨e, G, E, h.split.imp fun d H1 G1 x1 q1 v rv => by
    cases d with
    | lst xs =>
      obtain ⟨b, vs, rfl, s, r⟩ := rv
      dsimp only [dSortSet] at q1
      cases hk : D.keys xs with
      | none => rw [hk] at q1; exact q1.elim
      | some ks =>
        rw [hk] at q1
        dsimp only at q1
        by_cases hl : ks.length ≤ mostK ∧ KindK ks
        · rw [if_pos hl] at q1
          exact ⟨b, ks, rfl, keys_of_rep s (keys_rep hk r), hl.1, hl.2, fun l hl => q1 (upd H1 l (.lst _)) G1 ⟨Sub.upd hl, Sub.refl _, x1.gh.trans (Sub.upd hl), fun b z => .inl z⟩ l (x1.hh.free hl) (x1.gh.free hl) ⟨_, upd_same, repL_keys _⟩⟩
        · rw [if_neg hl] at q1; exact q1.elim
    | _ => exact (show False from q1).elim⟩
/-! max(l, default=c) -/
theorem alike_ints (ns : List Int) : PySem.W.AlikeAll (ns.map PyData.int) := by
  refine ⟨fun d hd e he => ?_, fun d hd => ?_⟩
  · obtain ⟨i, _, rfl⟩ := List.mem_map.mp hd
    obtain ⟨j, _, rfl⟩ := List.mem_map.mp he
    rfl
  · obtain ⟨i, _, rfl⟩ := List.mem_map.mp hd
    simp
theorem depth_ints : ∀ ns : List Int, PyData.depthAll (ns.map PyData.int) ≤ 1
  | [] => by simp [PyData.depthAll]
  | n :: ns => by have := depth_ints ns; simp [PyData.depthAll, PyData.depth]; omega
theorem dps_ints {K : PySem.W.Frag} {H : Hp} : ∀ ns : List Int, DpAll K H (ns.map V.int) (ns.map PyData.int)
  | [] => .nil
  | n :: ns => .cons (.int n) (dps_ints ns)
def maxDef (c : Int) : List Int → Int
  | [] => c
  | n :: r => r.foldl max n
theorem maxDef_ge (c : Int) : ∀ {ns : List Int} {x : Int}, x ∈ ns → x ≤ maxDef c ns
  | n :: r, x, h => by
    have gen : ∀ (r : List Int) (n x : Int), (x = n ∨ x ∈ r) → x ≤ r.foldl max n := by
      intro r
      induction r with
      | nil => intro n x h; rcases h with rfl | h; exact Int.le_refl _; cases h
      | cons m r ih =>
        intro n x h
        rw [List.foldl_cons]
        have h0 := ih (max n m) (max n m) (.inl rfl)
        rcases h with rfl | h
        · omega
        · rcases List.mem_cons.mp h with rfl | h
          · omega
          · exact ih _ _ (.inr h)
    exact gen r n x (List.mem_cons.mp h)
theorem maxDef_mem (c : Int) : ∀ {ns : List Int}, ns ≠ [] → maxDef c ns ∈ ns
  | n :: r, _ => by
    have gen : ∀ (r : List Int) (n : Int), r.foldl max n ∈ n :: r := by
      intro r
      induction r with
      | nil => intro n; exact List.mem_cons_self
      | cons m r ih =>
        intro n
        rw [List.foldl_cons]
        rcases List.mem_cons.mp (ih (max n m)) with h | h
        · rw [h]
          by_cases q : n ≤ m
          · rw [Int.max_eq_right q]; exact List.mem_cons_of_mem _ List.mem_cons_self
          · rw [Int.max_eq_left (by omega)]; exact List.mem_cons_self
        · exact List.mem_cons_of_mem _ (List.mem_cons_of_mem _ h)
    exact gen r n
def rMaxDef (K : PySem.W.Frag) : List V → List V → Hp → VK → Prop := fun vs zs H Q => ∃ (a : Addr) (ns : List Int) (c : Int), vs = [V.ref a] ∧ zs = [V.int c] ∧ SqL K H a (ns.map V.int) ∧ Q (.int (maxDef c ns)) H
theorem cr_maxDef (hc : X.calm = true) (hu : X.A.units + 64 < cLine) : CallRK X (.builtin "max") [Str.ofString "default"] (rMaxDef X.K) := by
  intro pins s σ H vs zs us ws Q I r rz h
  obtain ⟨l, ns, c, rfl, rfl, hs, q⟩ := h
  obtain rfl := Vals.ref1 r
  obtain ⟨w1, rfl, tk, rfl⟩ := vals1 rz
  obtain ⟨its, rv, hl, hz⟩ := I.list hs
  obtain ⟨as, hr⟩ := Dp.readsAll I (ns.map PyData.int) _ its (dps_ints ns) rv
  refine PySem.W.max_list_default (I.ok.hd hc) hl.isList (by simpa using hr) (alike_ints ns) (by have := depth_ints ns; omega) (fun e h' tk2 kp => ?_) (fun y ys i v h' tk2 bs e hv hrd kp => ?_)
  · have e' : ns = [] := by simpa using e
    subst e'
    exact ⟨.int c, H, I.kept (t' := tk2) kp, ⟨tk, rfl⟩, q⟩
  · cases ns with
    | nil => cases e
    | cons n r =>
      rw [List.map_cons] at e
      cases e
      rw [PySem.W.maxD_ints] at hrd
      cases hrd
      exact ⟨.int (maxDef c (n :: r)), H, I.kept (t' := tk2) kp, ⟨_, rfl⟩, q⟩
/-- max of a list of numbers, with a written number where there is none -/
def dMaxDef (c : Int) : D → Res D
  | .lst xs => match D.ints xs with
    | some ns => .ok (.int (maxDef c ns))
    | none => .bad
  | _ => .bad
theorem de_maxDef {f : DL.Env → Res D} {c : Int} {ck : Nat} {kp pc pos : Pos} (hc : X.calm = true) (hu : X.A.units + 64 < cLine) (hg : Gl X "max") (hm : X.mg "max" = none) (ha : DR X W A a f)
    (na : starEach [a] X.env = (false, eval a X.env) :: starEach [] X.env := by rfl)
    (he : backTo pos (starEach [a] X.env) = (false, eval a X.env) :: backTo pos (starEach [] X.env) := by rfl) (hpl : (backTo pos (starEach [a] X.env)).any (·.1) = false := by rfl)
    (hall : (backToKw pos (keywordEach [⟨some "default", .Constant (.int c) ck pc, kp⟩] X.env)).all (·.1.isSome) = true := by rfl) (hnone : (backToKw pos (keywordEach [⟨some "default", .Constant (.int c) ck pc, kp⟩] X.env)).any (·.1.isNone) = false := by rfl) (hks : (backToKw pos (keywordEach [⟨some "default", .Constant (.int c) ck pc, kp⟩] X.env)).filterMap (·.1) = [Str.ofString "default"] := by rfl) :
    DE X W A (.Call (.Name "max" p) [a] [⟨some "default", .Constant (.int c) ck pc, kp⟩] pos) (e1 (dMaxDef c) f) := by
  refine (pe_callBK (cr_maxDef hc hu) hg hm boot_max (pa_cons ha pa_nil na) (pk_cons pe_int pk_nil) (by decide) (by decide) he hpl hall hnone hks).imp fun σ H Q ⟨e, G, E, h⟩ => ?_
  refine ⟨e, G, E, h.split.imp fun d H1 G1 x1 q1 v rv => ?_⟩
  cases d with
  | lst xs =>
    obtain ⟨b, vs, rfl, s, r⟩ := rv
    dsimp only [dMaxDef] at q1
    cases hk : D.ints xs with
    | none => rw [hk] at q1; exact q1.elim
    | some ns =>
      rw [hk] at q1
      have ev := ints_rep hk r
      subst ev
      exact ⟨b, ns, c, rfl, rfl, s, PostG.val (d := .int (maxDef c ns)) q1 x1.gh rfl⟩
  | _ => exact (show False from q1).elim
end
end DL

/-! a <= b <= c <= d; l.count(n) -/
namespace DL
open PySem PySem.Spec PyProof.Rows L2
section
variable {X : Cx} {W : WX} {A : Nat → Prop} {a b c d : Expr} {pos : Pos}
def tChain3 (r r' r2 : R2) (ta tb tc td : TE) : TE := fun σ H Q => ta σ H fun x H1 => tb σ H1 fun y H2 => r x y H2 fun z H3 => ∃ k, z = .bl k ∧
  (if k = true then tc σ H3 fun w H4 => r' y w H4 fun z' H5 => ∃ k', z' = .bl k' ∧ (if k' = true then td σ H5 fun u H6 => r2 w u H6 Q else Q (.bl false) H5) else Q (.bl false) H3)
theorem pe_chain3 {op op' op2 : CmpOp} {r r' r2 : R2} {ta tb tc td : TE} (ho : OpR X (compareOp op) r) (ho' : OpR X (compareOp op') r') (ho2 : OpR X (compareOp op2) r2) (ha : PE X a ta) (hb : PE X b tb) (hc : PE X c tc) (hd : PE X d td)
    (hm : lastMarks [op, op', op2] [b, c, d] = false := by with_unfolding_all rfl) : PE X (.Compare a [op, op', op2] [b, c, d] pos) (tChain3 r r' r2 ta tb tc td) := by
  refine ⟨fun pins s σ H Q I h => ?_⟩
  refine Compare_chain (thn (ha.run pins s σ H _ I h) fun v1 s1 ⟨x, H1, I1, e1, q1⟩ => chain_link (thn (hb.run pins s1 σ H1 _ I1 q1) fun v2 s2 ⟨y, H2, I2, e2, q2⟩ =>
    thn (ho pins s2 σ H2 x y v1 v2 _ I2 e1 e2 q2) fun g s3 ⟨z, H3, I3, e3, k, ek, q3⟩ => ?_)) hm
  subst ek
  cases e3
  refine wpAny_truthy_bool ?_
  cases k with
  | false => exact ite_ff ⟨.bl false, H3, I3, rfl, q3⟩
  | true =>
    refine ite_tt (chain_link (thn (hc.run pins s3 σ H3 _ I3 q3) fun v3 s4 ⟨w, H4, I4, e4, q4⟩ => thn (ho' pins s4 σ H4 y w v2 v3 _ I4 e2 e4 q4) fun g' s5 ⟨z', H5, I5, e5, k', ek', q5⟩ => ?_))
    subst ek'
    cases e5
    refine wpAny_truthy_bool ?_
    cases k' with
    | false => exact ite_ff ⟨.bl false, H5, I5, rfl, q5⟩
    | true => exact ite_tt (chain_last (thn (hd.run pins s5 σ H5 _ I5 q5) fun v4 s6 ⟨u, H6, I6, e6, q6⟩ => ho2 pins s6 σ H6 w u v3 v4 Q I6 e4 e6 q6))
def eChain3 (g g' g2 : D → D → Res D) (fa fb fc fd : DL.Env → Res D) : DL.Env → Res D := fun e => (fa e).bind fun x => (fb e).bind fun y => (g x y).bind fun z => (D.asB z).bind fun k =>
  if k = true then (fc e).bind fun w => (g' y w).bind fun z' => (D.asB z').bind fun k' => if k' = true then (fd e).bind fun u => g2 w u else .ok (.bl false) else .ok (.bl false)
theorem de_chain3 {op op' op2 : CmpOp} {g g' g2 : D → D → Res D} {fa fb fc fd : DL.Env → Res D} (ho : OpD X W (compareOp op) g) (ho' : OpD X W (compareOp op') g') (ho2 : OpD X W (compareOp op2) g2) (ha : DR X W A a fa) (hb : DR X W A b fb) (hc : DR X W A c fc) (hd : DR X W A d fd)
    (hm : lastMarks [op, op', op2] [b, c, d] = false := by with_unfolding_all rfl) : DE X W A (.Compare a [op, op', op2] [b, c, d] pos) (eChain3 g g' g2 fa fb fc fd) := by
  obtain ⟨r, h1, h2⟩ := ho
  obtain ⟨r', h1', h2'⟩ := ho'
  obtain ⟨r2, k1, k2⟩ := ho2
  refine (pe_chain3 h1 h1' k1 ha hb hc hd hm).imp fun σ H Q ⟨e, G, E, p⟩ => ?_
  refine ⟨e, G, E, p.split.imp fun dx H1 G1 x1 p1 v rv => ⟨e, G1, E.ext x1, p1.split.imp fun dy H2 G2 x2 p2 u ru => ?_⟩⟩
  refine h2 σ H2 G2 v u dx dy _ x2.gh (rv.mono x2.hh x2.gg) ru (p2.split.imp fun dz H3 G3 x3 p3 z rz => ?_)
  obtain ⟨k, rfl, p4⟩ := asB_of p3
  refine ⟨k, rz, ?_⟩
  cases k with
  | false => exact PostG.val (d := .bl false) p4 x3.gh rfl
  | true =>
    rw [if_pos rfl] at p4 ⊢
    refine ⟨e, G3, (E.ext x1).ext (x2.trans x3), p4.split.imp fun dw H4 G4 x4 p5 w rw' => ?_⟩
    refine h2' σ H4 G4 u w dy dw _ x4.gh (ru.mono (x3.trans x4).hh (x3.trans x4).gg) rw' (p5.split.imp fun dz' H5 G5 x5 p6 z' rz' => ?_)
    obtain ⟨k', rfl, p7⟩ := asB_of p6
    refine ⟨k', rz', ?_⟩
    cases k' with
    | false => exact PostG.val (d := .bl false) p7 x5.gh rfl
    | true =>
      rw [if_pos rfl] at p7 ⊢
      refine ⟨e, G5, ((E.ext x1).ext (x2.trans x3)).ext (x4.trans x5), p7.split.imp fun du H6 G6 x6 p8 t rt => ?_⟩
      exact k2 σ H6 G6 w t dw du Q x6.gh (rw'.mono (x5.trans x6).hh (x5.trans x6).gg) rt p8
/-! l.count(n) of whole numbers -/
def dCountI : D → List D → Res D := fun l ks => match l, ks with
  | .lst xs, [.int k] => match D.ints xs with
    | some ns => .ok (.int (ns.count k : Nat))
    | none => .bad
  | _, _ => .bad
theorem meth_countI : MethD X W "list" "list.count" dCountI := by
  refine ⟨_, mt_lcount, fun σ H G x vs dx ds Q sg ty rx rvs p => ?_⟩
  cases dx with
  | lst xs =>
    cases ds with
    | nil => exact p.elim
    | cons d r =>
      cases r with
      | cons _ _ => cases d <;> exact p.elim
      | nil =>
        cases d with
        | int k =>
          obtain ⟨q, ws, rfl, s, rr⟩ := rx
          obtain ⟨v, r', rfl, hv, hr⟩ := rvs
          cases (show r' = [] from hr)
          cases (show v = .int k from hv)
          dsimp only [dCountI] at p
          cases hk : D.ints xs with
          | none => rw [hk] at p; exact p.elim
          | some ns =>
            rw [hk] at p
            have ev := ints_rep hk rr
            subst ev
            exact ⟨q, ns, k, rfl, rfl, s, PostG.val (d := .int (ns.count k : Nat)) p sg rfl⟩
        | _ => exact p.elim
  | _ => exact p.elim
end
end DL

/-! a tuple times a number, the factor one, too -/
namespace L2
open PySem PySem.Spec PyProof.Rows
theorem once_ops (l : Addr) (its : Array Value) (m : Nat) (q : Option Addr) (sl : Array (Option Value)) (u : Tok) :
    Meets (Builtin.«tuple.__mul__» ⟨[.ref l, .int 1 u], []⟩) (fun _ R s => s.heap.get? l = some { cls := .type "tuple", dict := q, data := .seq its m, slots := sl } ∧ R (.ok (.ret (Value.ref l))) s) :=
  .of_wp fun prog w A R s h => by
    obtain ⟨hp, g, d, tk, os⟩ := s
    obtain ⟨k1, k2⟩ := h
    have fx := AutoSeq1.idx_int
    wp_walk using wpAny_loadPart' k1
    repeat (first
      | (refine wpAny_ite_false (decide_eq_false (by decide)) ?_; wp_walk using wpAny_loadPart' k1)
      | (refine wpAny_ite_true (decide_eq_true (by simp)) ?_; wp_walk using wpAny_loadPart' k1))
    all_goals exact ⟨_, rfl, k2⟩
def rOnceT (K : PySem.W.Frag) : R2 := fun x y H Q => ∃ l xs, x = .ref l ∧ y = .int 1 ∧ SqT K H l xs ∧ Q (.ref l) H
variable {X : Cx}
theorem op_onceT : OpR X (binaryOp .Mult) (rOnceT X.K) := by
  intro pins s σ H x y v u Q I a b h
  obtain ⟨l, xs, rfl, rfl, c, e⟩ := h
  cases a
  obtain ⟨t, rfl⟩ := b
  obtain ⟨its, r, ⟨⟨c1, d1, d2, sl⟩, ho, c2, m, c3⟩, _⟩ := I.tuple c
  simp only at c2 c3
  subst c2 c3
  exact wpAny_binaryOp_repeat_ref (T := "tuple") (U := "int") (by decide) ⟨_, ho, rfl⟩ (fun z => typeIs_int z 1 t) noFill_tuple_mul F.fills_int_mul F.slot_int_rmul repeat_tuple F.slot_int_index.lookup
    (call_meets F.slot_int_rmul (typeIs_int s 1 t) F.entry_int_rmul (F.args_int_rmul_2 _ _) (int_rmul_tuple 1 t l its.toArray m d1 sl)
      ⟨ho, rfl, ⟨_, ho, rfl⟩, call_meets F.slot_tuple_mul ⟨_, ho, rfl⟩ F.entry_tuple_mul (F.args_tuple_mul_2 _ _) (once_ops l its.toArray m d1 sl t) ⟨ho, .ref l, H, I, rfl, e⟩⟩)
end L2
namespace DL
open PySem PySem.Spec PyProof.Rows L2
section
variable {X : Cx} {W : WX}
def dRepT : D → D → Res D
  | .tup xs, .int k => if k = 1 then .ok (.tup xs) else if 2 ≤ k ∧ k ≤ 1000 ∧ xs ≠ [] ∧ xs.length ≤ 1000 then .ok (.tup (List.replicate k.toNat xs).flatten) else .bad
  | _, _ => .bad
theorem od_repT : OpD X W (binaryOp .Mult) dRepT := by
  refine ⟨_, OpR.or op_onceT op_repT, fun σ H G x y dx dy Q sg rx ry p => ?_⟩
  cases dx with
  | tup i =>
    cases dy with
    | int j =>
      have ey : y = .int j := ry
      obtain ⟨a, vs, e1, s1, r1⟩ := (show Rep X.K G (.tup i) x from rx)
      dsimp only [dRepT] at p
      by_cases h1 : j = 1
      · rw [if_pos h1] at p
        subst h1
        exact .inl ⟨a, vs, e1, ey, .of (sg a _ s1), p.here sg _ ⟨a, vs, rfl, s1, r1⟩⟩
      · rw [if_neg h1] at p
        by_cases hc : 2 ≤ j ∧ j ≤ 1000 ∧ i ≠ [] ∧ i.length ≤ 1000
        · rw [if_pos hc] at p
          refine .inr ⟨a, j, vs, e1, ey, .of (sg a _ s1), fun z => hc.2.2.1 ?_, hc.1, hc.2.1, by rw [r1.length]; exact hc.2.2.2, fun q hq => ?_⟩
          · have := r1.length
            rw [z] at this
            exact List.eq_nil_of_length_eq_zero this.symm
          · exact p _ _ (Ext.laid sg hq) _ ⟨q, _, rfl, upd_same, (repl_flat r1 _).mono (Sub.upd (sg.free hq))⟩
        · rw [if_neg hc] at p; exact p.elim
    | _ => exact (show False from p).elim
  | _ => exact (show False from p).elim
end
end DL

/-! a def that is handed a list of the caller's own as its first value and gives back one of its own -/
namespace DL
open PySem PySem.Spec PyProof.Rows L2
/-- H without the object at a -/
noncomputable def hide (H : Hp) (a : Addr) : Hp := open Classical in fun b => if b = a then none else H b
theorem hide_at (H : Hp) (a : Addr) : hide H a a = none := if_pos rfl
theorem hide_ne (H : Hp) {a b : Addr} (h : b ≠ a) : hide H a b = H b := if_neg h
theorem hide_sub (H : Hp) (a : Addr) : Sub (hide H a) H := fun b o e => by
  by_cases h : b = a
  · rw [h, hide_at] at e; cases e
  · rw [hide_ne H h] at e; exact e
theorem sub_hide {G H : Hp} {a : Addr} (s : Sub G H) (h : G a = none) : Sub G (hide H a) := fun b o e => by
  have : b ≠ a := fun z => by rw [z, h] at e; cases e
  rw [hide_ne H this]; exact s b o e
/-- such a def's promise -/
def spO (K : PySem.W.Frag) (mg : Str → Option Value) (n : Nat) (F : List D → Res D) : Sp := fun vs H Q E => vs.length = n ∧ ∃ a vr d dr G Hm, vs = .ref a :: vr ∧ Sub G Hm ∧ Sub Hm H ∧ Hm a = none ∧ OwnC K H G d a ∧ RepL K G dr vr ∧
  PostG K mg E Hm G (F (d :: dr)) fun r H' G' => ∀ b, Hm b = none → G' b = none → OwnC K H' G' r b → Q (.ref b) H'
structure CallOkO (P : Program) (w : World) (K : PySem.W.Frag) (mg : Str → Option Value) (base : Heap) (k : Nat) (x : Str) (ps : List Str) (F : List D → Res D) : Prop where
  ok : ∃ f fd, mg x = some (.ref f) ∧ PySem.W.keepIn K (.ref f) = true ∧ Binds K fd ps [] ∧ FnOk P w K mg base (L2.CX P w) k f fd ps (spO K mg ps.length F)
theorem CallOkO.up {P : Program} {w : World} {K : PySem.W.Frag} {mg : Str → Option Value} {base : Heap} {j k : Nat} {x : Str} {ps : List Str} {F : List D → Res D} (h : CallOkO P w K mg base j x ps F) (hjk : j ≤ k) : CallOkO P w K mg base k x ps F :=
  let ⟨f, fd, h1, h2, h3, h4⟩ := h.ok
  ⟨f, fd, h1, h2, h3, h4.mono hjk⟩
def env1 (n m : Nat) : List D → Env
  | [] => []
  | d :: ds => some (d, true) :: (ds.map (fun d => some (d, false)) ++ List.replicate (m - n) none)
def runDefO (n m : Nat) (fb : Env → Out) : List D → Res D := fun ds => match fb (env1 n m ds) with
  | .ro d => .ok d
  | .ex c fs _ => .exc c fs
  | _ => .bad
theorem fnO {P : Program} {w : World} {K : PySem.W.Frag} {mg : Str → Option Value} {base : Heap} {x qual : Str} {st : Stmt} {f : Addr} {fd : FuncData} {N ps : List Str} {k : Nat} {fb : Env → Out} (F : Fun K x qual st f fd) (S : FnScope N ps (defScope st))
    (hbody : ∀ (cdv : Value) (A : Around) (outer : List PySem.Env) (s : Shared) (H H0 G : Hp) (E : XK), Room k (A.deeper (envOfC qual (defScope st) s.heap.objs.size f cdv)) →
      Takes (cxOf (L2.CX P w) P w K mg base N qual (defScope st) f cdv A outer s H E) (wE E) → PassesOwn (model P w) (A.deeper (envOfC qual (defScope st) s.heap.objs.size f cdv)) (envOfC qual (defScope st) s.heap.objs.size f cdv) (cxOf (L2.CX P w) P w K mg base N qual (defScope st) f cdv A outer s H E).xe →
      DSs (cxOf (L2.CX P w) P w K mg base N qual (defScope st) f cdv A outer s H E) (wE E) (Bas.of H0) G (defBody st) fb) :
    FnOk P w K mg base (L2.CX P w) (k + 1) f fd ps (spO K mg ps.length (runDefO ps.length N.length fb)) := by
  refine F.okX S (fun vs H Q E h => h.1) fun cdv A outer s H vs Q E hr h => ?_
  obtain ⟨hl, a, vr, d0, dr, G, Hm, rfl, sg, sm, ha, ho, r, p⟩ := h
  refine ⟨_, hbody cdv A outer s H Hm G E hr (takes_of rfl rfl rfl rfl) (passes_of rfl), env1 ps.length N.length (d0 :: dr), G, ?_, ?_⟩
  · have hps : ps.length ≤ N.length := by have := congrArg List.length S.pre; rw [List.length_take] at this; omega
    have hdl := r.length
    rw [List.length_cons] at hl
    have get : ∀ (i : Nat) (d : D) (o : Bool), (env1 ps.length N.length (d0 :: dr))[i]? = some (some (d, o)) → (i = 0 ∧ o = true ∧ d = d0) ∨ (∃ j, i = j + 1 ∧ o = false ∧ dr[j]? = some d) := fun i d o h => by
      cases i with
      | zero => cases h; exact .inl ⟨rfl, rfl, rfl⟩
      | succ i =>
        refine .inr ⟨i, rfl, ?_⟩
        unfold env1 at h
        rw [List.getElem?_cons_succ] at h
        by_cases hi : i < dr.length
        · rw [List.getElem?_append_left (by simpa using hi), List.getElem?_map] at h
          cases q : dr[i]? with
          | none => rw [q] at h; cases h
          | some d' => rw [q] at h; cases h; exact ⟨rfl, rfl⟩
        · rw [List.getElem?_append_right (by simpa using hi), List.getElem?_replicate] at h
          split at h <;> cases h
    refine ⟨⟨sm, Sub.refl _, sg.trans sm, fun b z => .inl z⟩, ?_, fun i d h => ?_, fun i d h => ?_, fun i j d d' b h1 h2 _ _ => ?_, fun i a d h => by cases h⟩
    · unfold L2.start env1
      simp only [List.length_append, List.length_map, List.length_replicate, List.length_cons]
      omega
    · rcases get i d false h with ⟨_, z, _⟩ | ⟨j, rfl, _, h2⟩
      · cases z
      · obtain ⟨v, h3, h4⟩ := r.get h2
        refine ⟨v, ?_, h4⟩
        have hi : j < vr.length := (List.getElem?_eq_some_iff.mp h3).1
        unfold L2.start
        rw [List.getElem?_append_left (by simpa using hi), List.getElem?_map, List.getElem?_cons_succ, h3]
        rfl
    · rcases get i d true h with ⟨rfl, _, rfl⟩ | ⟨j, _, z, _⟩
      · refine ⟨a, rfl, ha, ?_, ho⟩
        cases q : G a with
        | none => rfl
        | some o => rw [sg a o q] at ha; cases ha
      · cases z
    · rcases get i d true h1 with ⟨rfl, _⟩ | ⟨_, _, z, _⟩
      · rcases get j d' true h2 with ⟨rfl, _⟩ | ⟨_, _, z, _⟩
        · rfl
        · cases z
      · cases z
  · unfold runDefO at p
    cases hr : fb (env1 ps.length N.length (d0 :: dr)) with
    | ro d =>
      rw [hr] at p
      exact fun b H' G' x hb gb rc => p H' G' x b hb gb rc
    | ex c fs e' =>
      rw [hr] at p
      exact fun cls o σ' H' G' H2 S' s2 ix => p cls o H2 (S'.ext.hh.trans s2) ix
    | rt d => rw [hr] at p; exact p.elim
    | rm d e' => rw [hr] at p; exact p.elim
    | nx e' => rw [hr] at p; exact p.elim
    | bk e' => rw [hr] at p; exact p.elim
    | ct e' => rw [hr] at p; exact p.elim
    | bad => rw [hr] at p; exact p.elim
/-- where nothing is promised -/
theorem fn_badO {P : Program} {w : World} {K : PySem.W.Frag} {mg : Str → Option Value} {base : Heap} {f : Addr} {fd : FuncData} {ps : List Str} {k : Nat} {F : List D → Res D} (h : ∀ ds, F ds = .bad) : FnOk P w K mg base (L2.CX P w) k f fd ps (spO K mg ps.length F) :=
  ⟨fun vs H Q E h => h.1, fun A outer s H args us vs Q E _ _ _ _ ⟨_, a, vr, d, dr, G, Hm, _, _, _, _, _, _, p⟩ => by rw [h] at p; exact p.elim⟩
section
variable {X : Cx} {W : WX} {H0 : Bas} {G0 : Hp} {al : List Nat} {pos p : Pos}
theorem StOk.lose {K : PySem.W.Frag} {H G : Hp} {σ : L2.St} {e : DL.Env} (S : StOk K H0 G0 σ e H G) (i : Nat) : StOk K H0 G0 σ (e.set i none) H G := by
  have get : ∀ (j : Nat) (s : D × Bool), (e.set i none)[j]? = some (some s) → e[j]? = some (some s) := fun j s h => by
    rcases set_get h with ⟨_, z⟩ | ⟨_, z⟩
    · cases z
    · exact z
  exact ⟨S.ext, by rw [List.length_set]; exact S.len, fun j d h => S.sh j d (get j _ h), fun j d h => S.ow j d (get j _ h), fun j k d d' a h1 h2 h3 h4 => S.ne j k d d' a (get j _ h1) (get k _ h2) h3 h4, fun j a d hp h => S.pn j a d hp (get j _ h)⟩
theorem StOk.hide {K : PySem.W.Frag} {H G : Hp} {σ : L2.St} {e : DL.Env} {a : Addr} (S : StOk K H0 G0 σ e H G) (h0 : H0.hp a = none) (h1 : G a = none) (h2 : ∀ (j : Nat) d, e[j]? = some (some (d, true)) → σ[j]? ≠ some (some (.ref a))) : StOk K H0 G0 σ e (hide H a) G := by
  refine ⟨⟨sub_hide S.ext.hh h0, S.ext.gg, sub_hide S.ext.gh h1, S.ext.new⟩, S.len, S.sh, fun j d h => ?_, S.ne, S.pn⟩
  obtain ⟨b, q1, q2, q3, q4⟩ := S.ow j d h
  have hb : b ≠ a := fun z => h2 j d h (by rw [← z]; exact q1)
  exact ⟨b, q1, q2, q3, q4.mono' (fun o z => by rw [hide_ne H hb]; exact z) (Sub.refl _)⟩
theorem fz_own : ∀ (al : List Nat) (e : Env) (i : Nat) (d : D), i ∉ al → e[i]? = some (some (d, true)) → (fz al e)[i]? = some (some (d, true))
  | [], _, _, _, _, h => h
  | j :: r, e, i, d, hn, h => fz_own r (unown j e) i d (fun z => hn (List.mem_cons_of_mem _ z)) (by rw [unown_get, if_neg (fun z => hn (by rw [z]; exact List.mem_cons_self))]; exact h)
/-- x = f(x, ..), the list of x handed on -/
def sCallO (al : List Nat) (i : Nat) (F : List D → Res D) (fs : Env → Res (List D)) : Env → Out := fun e => match e[i]? with
  | some (some (d, true)) => sE al fs (fun dr e' => match F (d :: dr) with
    | .ok r => .nx (e'.set i (some (r, true)))
    | .exc c xs => .ex c xs (e'.set i none)
    | .bad => .bad) e
  | _ => .bad
theorem ds_callO {i k : Nat} {x g : Str} {ps : List Str} {F : List D → Res D} {fs : Env → Res (List D)} {es : List Expr} {p1 p2 pc : Pos} (hN : X.N.Nodup) (hi : X.N[i]? = some x) (hx : Loc X.env.scope x) (hv : Vis X.env.scope x) (hal : i ∉ al)
    (c : CallOkO X.prog X.w X.K X.mg X.base k g ps F) (hr : Room k X.A) (hg : Gl X g) (tk : Takes X W) (ha : DA X W (fun i => i ∈ al) es fs) (hl : LenEq fs (ps.length - 1)) (hps : 0 < ps.length)
    (hd : (x == ("__debug__" : Str)) = false := by decide) (hcd : (x == ("__classdict__" : Str)) = false := by decide)
    (hdb : (g == ("__debug__" : Str)) = false := by decide) (he : starEach (.Name x p1 :: es) X.env = (false, eval (.Name x p1) X.env) :: starEach es X.env := by rfl) (hpl : (backTo pc (starEach es X.env)).any (·.1) = false := by rfl)
    (hs : swapsWith (.Call (.Name g p) (.Name x p1 :: es) [] pc) (some (.Name x p2)) pos.line X.env = pure false := by rfl)
    (hf : X.fn x = true ∨ X.env.scope.names.lookup x = some .local := by first | exact .inl rfl | exact .inr rfl | assumption) (hpin : H0.pin i = none := by rfl) :
    DS X W H0 G0 (.Assign [.Name x p2] (.Call (.Name g p) (.Name x p1 :: es) [] pc) pos) (sCallO al i F fs) := by
  obtain ⟨f, fd, hm, hk, hb, hF⟩ := c.ok
  refine (ps_set hN hi hx (pe_callS hF hr hg hm hk hb (fun σ => passAt tk σ) (pa_cons (pe_var hi hv hd hcd) ha he) hdb he hpl) hs hf).lk fun Z σ H ⟨e, G, S, p⟩ => ?_
  unfold sCallO at p
  revert p
  split
  · rename_i d h
    intro p
    refine (S.exp al).imp fun H ⟨GX, GA, SX, E, nxt⟩ => ?_
    have hX : (fzD al e)[i]? = some (some (d, true)) := fz_fzD_own (fz_own al e i d hal h)
    obtain ⟨a, q1, q2, q3, q4⟩ := SX.ow i d hX
    refine ⟨_, q1, ?_⟩
    refine ⟨e, GA, E, ?_⟩
    unfold sE at p
    cases hr : fs e with
    | exc c xs =>
      rw [hr] at p
      exact fun cls o H' s ix => p cls o σ H GA H' (nxt H GA (Ext.refl E.sub)) s ix
    | bad => rw [hr] at p; exact p.elim
    | ok dr =>
      rw [hr] at p
      dsimp only at p
      intro H1 G1 x1 vr rr
      have S1 := nxt H1 G1 x1
      obtain ⟨a1, w1, w2, w3, w4⟩ := S1.ow i d (fz_own al e i d hal h)
      rw [q1] at w1
      cases w1
      have S2 : StOk X.K H0 G0 σ ((fz al e).set i none) (DL.hide H1 a) G1 := (S1.lose i).hide w2 w3 fun j d' z1 z2 => by
        rcases set_get z1 with ⟨_, y⟩ | ⟨hj, y⟩
        · cases y
        · exact hj (S1.ne j i d' d a y (fz_own al e i d hal h) z2 q1)
      have hln : (V.ref a :: vr).length = ps.length := by
        have := hl e dr hr
        rw [List.length_cons, rr.length, this]
        omega
      refine ⟨hln, a, vr, d, dr, G1, DL.hide H1 a, rfl, S2.ext.gh, hide_sub _ _, hide_at _ _, w4, rr, ?_⟩
      cases hF2 : F (d :: dr) with
      | bad => rw [hF2] at p; exact p.elim
      | exc c xs =>
        rw [hF2] at p
        exact fun cls o H' s ix => p cls o σ _ G1 H' S2 s ix
      | ok r =>
        rw [hF2] at p
        intro H' G' x b hb gb rc
        have S3 := (S2.step x).setF i (Hb := DL.hide H1 a) S2.ext.hh (fun j d' b' z1 z2 => by
          obtain ⟨b2, y1, y2, y3, y4⟩ := S2.ow j d' z1
          rw [z2] at y1; cases y1
          exact y4.is) hb gb rc hpin
        rw [List.set_set] at S3
        exact p _ H' G' S3
  · exact fun p => p.elim
end
end DL

/-! d.values() as a value; max(d.values(), default=c) -/
namespace L2
open PySem PySem.Spec PyProof.Rows
section
variable {X : Cx} {o : Expr} {apos mpos : Pos} {td : TE}
/-- o.values(): a view of the dict -/
def tValuesK (td : TE) : TE := fun σ H Q => td σ H fun x H1 => ∃ a kvs, x = V.ref a ∧ Rd H1 a (.dK kvs) ∧ ∀ p, H1 p = none → Q (.ref p) (upd H1 p (viewO "dict_values" p a))
theorem pe_valuesK (hd : PE X o td) (hbase : attributeBase o "values" X.env (eval o X.env) = eval o X.env := by rfl) (hline : (apos.endLine == mpos.line) = true := by rfl) :
    PE X (.Call (.Attribute o "values" apos) [] [] mpos) (tValuesK td) := by
  refine ⟨fun pins s σ H Q I h => ?_⟩
  refine wpAny_Call_method0_late hbase hline (thn (hd.run pins s σ H _ I h) fun v s1 ⟨x, H1, I1, r1, a, kvs, ex, ha, q⟩ => ?_)
  subst ex
  obtain rfl : v = Value.ref a := r1
  obtain ⟨_, hsys, vs, rel, dof⟩ := dk_rd I1.hok ha
  obtain ⟨ep, ob, es, ho, ex, rest⟩ := dof.dictAt
  have gone : ∀ b, Value.ref a = Value.ref b → ∃ z, s1.heap.get? b = some z ∧ z.dict = none := fun b e => by cases e; exact ⟨ob, ho, ex.2.1⟩
  refine ⟨"dict", "dict.values", F.plainAttrs_dict, F.slot_dict_values, F.type_dict_values, ⟨ob, ho, ex.1⟩, gone, Calls.callWith_builtin rfl (PySem.evalArgs_none ?_)⟩
  refine call_meetsIn F.slot_dict_values ⟨ob, ho, ex.1⟩ F.entry_dict_values (F.args_dict_values_1 _) (meets_dict_values (mixKind X.prog X.w) a hsys) ⟨⟨vs, dof⟩, .ref s1.heap.objs.size, _, ?_, rfl, q _ (I1.hok.fresh (Nat.le_refl _))⟩
  exact I1.laid (t' := s1.toks) (fun b z e => Heap.get?_push_of_some _ e) (Nat.le_refl _) (viewO_ok (Heap.get?_push_size _ rfl))
/-- max of a view of values, with a written number where there is none -/
def rMaxDefV : List V → List V → Hp → VK → Prop := fun vs zs H Q => ∃ (p a : Addr) (kvs : List (Key × V)) (ns : List Int) (c : Int), vs = [V.ref p] ∧ zs = [V.int c] ∧ H p = some (viewO "dict_values" p a) ∧ Rd H a (.dK kvs) ∧ kvs.map (·.2) = ns.map V.int ∧ Q (.int (DL.maxDef c ns)) H
theorem cr_maxDefV (hc : X.calm = true) : CallRK X (.builtin "max") [Str.ofString "default"] rMaxDefV := by
  intro pins s σ H vs zs us ws Q I r rz h
  obtain ⟨p, a, kvs, ns, c, rfl, rfl, hp, ha, hns, q⟩ := h
  obtain rfl := Vals.ref1 r
  obtain ⟨w1, rfl, tk, rfl⟩ := vals1 rz
  obtain ⟨_, hsys, es, rel, dof⟩ := dk_rd I.hok ha
  obtain ⟨ep, dat⟩ := dof.dictAt
  have hv : s.heap.get? p = some (DSub.viewOb "dict_values" a) := (show ObjOk X.prog X.w H s.heap p (viewO "dict_values" p a) from I.hok p _ hp).1
  have hla : a < s.heap.objs.size := by obtain ⟨_, _, e, _⟩ := dat; exact Heap.lt_size e
  have hle : es.length = ns.length := by
    have e1 := congrArg List.length hns
    rw [List.length_map, List.length_map] at e1
    rw [← e1]
    exact (KV.length rel).symm
  have hval : ∀ (i : Nat) (v : Value), (∃ k, es[i]? = some (k, v)) → ∃ t, v = Value.int (ns.getD i 0) t := fun i v ⟨k, hk⟩ => by
    obtain ⟨x, h1, h2⟩ := KV.at' rel hk
    have e1 : (ns.map V.int)[i]? = some x := by rw [← hns, List.getElem?_map, h1]; rfl
    rw [List.getElem?_map] at e1
    obtain ⟨j, hj, e2⟩ := Option.map_eq_some_iff.mp e1
    subst e2
    obtain ⟨t, e3⟩ := h2
    exact ⟨t, by rw [e3, List.getD_eq_getElem?_getD, hj]; rfl⟩
  refine call_max_walkD (wpAny_pyIter_values (v := p) (d := a) ⟨_, hv, rfl, rfl⟩ dat ?_)
  refine ⟨_, _, _, _, _, _, _, s.heap, (fun i j => decide (ns.getD i 0 > ns.getD j 0)), rfl, (Walks.dictValues (knd := mixKind X.prog X.w) (A := X.A.in1) (I.ok.hd hc) s.heap.objs.size a (Nat.ne_of_lt hla) es ep).toS, ⟨⟨_, Heap.get?_push_size _ rfl, rfl, rfl⟩, dat.keep fun b u e => Heap.get?_push_of_some _ e⟩, fun b hb => ?_, fun b u e hb => ?_, fun b u e => Heap.get?_push_of_some _ e, fun hz s' m => ?_, fun hz => ⟨fun i j vi vj s' Q' E' _ hi hj hq => CmpOf.ints_gt (fun i => ns.getD i 0) hval i j vi vj s' Q' E' hi hj hq, fun v s' hP m => ?_⟩⟩
  · show b < (s.heap.push _).objs.size
    rw [Heap.size_push]
    rcases List.mem_cons.mp hb with z | z
    · rw [z]; exact Nat.lt_succ_self _
    · rw [List.mem_singleton.mp z]; exact Nat.lt_succ_of_lt hla
  · exact absurd (Heap.lt_size e) ((List.mem_singleton.mp hb) ▸ Nat.lt_irrefl _)
  · obtain ⟨h', tk2, rfl, kp⟩ := PySem.W.moved_old rfl rfl m
    have : ns = [] := List.eq_nil_of_length_eq_zero (by omega)
    subst this
    exact ⟨.int c, H, I.kept (t' := tk2) kp, ⟨tk, rfl⟩, q⟩
  · obtain ⟨h', tk2, rfl, kp⟩ := PySem.W.moved_old rfl rfl m
    obtain ⟨t, rfl⟩ := hval _ v hP
    obtain ⟨b1, b2⟩ := argBest_gt (fun i => ns.getD i 0) (es.length - 1)
    have b1 : argBest (fun i j => decide (ns.getD i 0 > ns.getD j 0)) (es.length - 1) ≤ es.length - 1 := b1
    have b2 : ∀ j, j ≤ es.length - 1 → ns.getD j 0 ≤ ns.getD (argBest (fun i j => decide (ns.getD i 0 > ns.getD j 0)) (es.length - 1)) 0 := b2
    generalize argBest (fun i j => decide (ns.getD i 0 > ns.getD j 0)) (es.length - 1) = k at b1 b2
    have hk : k < ns.length := by omega
    have mk : ns.getD k 0 ∈ ns := by rw [List.getD_eq_getElem?_getD, List.getElem?_eq_getElem hk]; exact List.getElem_mem hk
    have e : ns.getD k 0 = DL.maxDef c ns := by
      refine Int.le_antisymm (DL.maxDef_ge c mk) ?_
      obtain ⟨i, hi, e⟩ := List.mem_iff_getElem.mp (DL.maxDef_mem c (ns := ns) (fun z => by rw [z] at hk; simp at hk))
      have := b2 i (by omega)
      rw [List.getD_eq_getElem?_getD, List.getElem?_eq_getElem hi] at this
      rw [← e]
      exact this
    rw [e]
    exact ⟨.int _, H, I.kept (t' := tk2) kp, ⟨t, rfl⟩, q⟩
end
end L2
namespace DL
open PySem PySem.Spec PyProof.Rows L2
section
variable {X : Cx} {W : WX} {A : Nat → Prop} {o : Expr} {apos mpos p pos : Pos}
def dMaxVals (c : Int) : D → Res D
  | .dct false kvs => match D.ints (kvs.map (·.2)) with
    | some ns => .ok (.int (maxDef c ns))
    | none => .bad
  | _ => .bad
theorem repV_snd {K : PySem.W.Frag} {G : Hp} : ∀ {kvs : List (D × D)} {vs : List V}, RepV K G kvs vs → RepL K G (kvs.map (·.2)) vs
  | [], _, h => h
  | (_, _) :: _, _, ⟨v, r, e, h1, h2⟩ => ⟨v, r, e, h1, repV_snd h2⟩
theorem Rd.mono' {H H' : Hp} (h : Sub H H') {a : Addr} {u : HO} (r : Rd H a u) : Rd H' a u := h.rd r
theorem de_maxVals {f : DL.Env → Res D} {c : Int} {ck : Nat} {kp pc : Pos} (hc : X.calm = true) (hg : Gl X "max") (hm : X.mg "max" = none) (ha : DR X W A o f)
    (hbase : attributeBase o "values" X.env (eval o X.env) = eval o X.env := by rfl) (hline : (apos.endLine == mpos.line) = true := by rfl)
    (na : starEach [.Call (.Attribute o "values" apos) [] [] mpos] X.env = (false, eval (.Call (.Attribute o "values" apos) [] [] mpos) X.env) :: starEach [] X.env := by rfl)
    (he : backTo pos (starEach [.Call (.Attribute o "values" apos) [] [] mpos] X.env) = (false, eval (.Call (.Attribute o "values" apos) [] [] mpos) X.env) :: backTo pos (starEach [] X.env) := by rfl) (hpl : (backTo pos (starEach [.Call (.Attribute o "values" apos) [] [] mpos] X.env)).any (·.1) = false := by rfl)
    (hall : (backToKw pos (keywordEach [⟨some "default", .Constant (.int c) ck pc, kp⟩] X.env)).all (·.1.isSome) = true := by rfl) (hnone : (backToKw pos (keywordEach [⟨some "default", .Constant (.int c) ck pc, kp⟩] X.env)).any (·.1.isNone) = false := by rfl) (hks : (backToKw pos (keywordEach [⟨some "default", .Constant (.int c) ck pc, kp⟩] X.env)).filterMap (·.1) = [Str.ofString "default"] := by rfl) :
    DE X W A (.Call (.Name "max" p) [.Call (.Attribute o "values" apos) [] [] mpos] [⟨some "default", .Constant (.int c) ck pc, kp⟩] pos) (e1 (dMaxVals c) f) := by
  refine (pe_callBK (cr_maxDefV hc) hg hm boot_max (pa_cons (pe_valuesK ha hbase hline) pa_nil na) (pk_cons pe_int pk_nil) (by decide) (by decide) he hpl hall hnone hks).imp fun σ H Q ⟨e, G, E, h⟩ => ?_
  refine ⟨e, G, E, h.split.imp fun d H1 G1 x1 q1 v rv => ?_⟩
  cases d with
  | dct t kvs =>
    cases t with
    | true => exact (show False from q1).elim
    | false =>
      obtain ⟨a, rfl, hr⟩ := rv
      rcases hr with ⟨_, ps, rd, _, r⟩ | ⟨z, _⟩
      · dsimp only [dMaxVals] at q1
        cases hk : D.ints (kvs.map (·.2)) with
        | none => rw [hk] at q1; exact q1.elim
        | some ns =>
          rw [hk] at q1
          have ev := ints_rep hk (repV_snd r)
          refine ⟨a, ps, rfl, rd, fun q hq => ?_⟩
          have sb : Sub H1 (upd H1 q (viewO "dict_values" q a)) := Sub.upd hq
          exact ⟨q, a, ps, ns, c, rfl, rfl, upd_same, sb.rd rd, ev, q1 _ _ ⟨sb, Sub.refl _, x1.gh.trans sb, fun b z => .inl z⟩ _ rfl⟩
      · cases z
  | _ => exact (show False from q1).elim
end
end DL

/-! comprehensions within one another -/
namespace DL
open PySem PySem.Spec PyProof.Rows L2
theorem lookup_map2 (g : Str × NameKind → NameKind) (hg : ∀ p, (p.2 = .cell → g p = .cell) ∧ (p.2 = .free → g p = .cell ∨ g p = .free)) (x : Str) : ∀ names : List (Str × NameKind), (names.lookup x = some .cell ∨ names.lookup x = some .free) →
    ((names.map fun p => (p.1, g p)).lookup x = some .cell ∨ (names.map fun p => (p.1, g p)).lookup x = some .free)
  | [], h => by simp at h
  | (k, v) :: r, h => by
    show List.lookup x ((k, g (k, v)) :: r.map fun p => (p.1, g p)) = _ ∨ List.lookup x ((k, g (k, v)) :: r.map fun p => (p.1, g p)) = _
    simp only [List.lookup_cons] at h ⊢
    cases hx : x == k with
    | true =>
      simp only [hx] at h ⊢
      rcases h with h | h
      · exact .inl (by rw [(hg (k, v)).1 (by injection h)])
      · rcases (hg (k, v)).2 (by injection h) with z | z
        · exact .inl (by rw [z])
        · exact .inr (by rw [z])
    | false =>
      simp only [hx] at h ⊢
      exact lookup_map2 g hg x r h
theorem relabel_free {sc : Scope} {env : PySem.Env} {x : Str} (h : sc.names.lookup x = some .cell ∨ sc.names.lookup x = some .free) : (relabel sc env).names.lookup x = some .cell ∨ (relabel sc env).names.lookup x = some .free := by
  have := lookup_map2 (fun p => if (p.2 == NameKind.free && env.scope.kind == .function && env.kindOf p.1 == some .cell) then .cell else p.2) (fun p => ⟨fun e => by rw [e]; rfl, fun e => by rw [e]; split; exact .inl rfl; exact .inr rfl⟩) x sc.names h
  unfold relabel
  have e : (sc.names.map fun (n, k) => if (k == .free && env.scope.kind == .function && env.kindOf n == some .cell) then (n, NameKind.cell) else (n, k)) = sc.names.map fun p => (p.1, if (p.2 == NameKind.free && env.scope.kind == .function && env.kindOf p.1 == some .cell) then NameKind.cell else p.2) := by
    apply List.map_congr_left
    rintro ⟨n, k⟩ _
    dsimp only
    split <;> rfl
  rw [show (Scope.names { sc with names := sc.names.map fun (n, k) => if (k == .free && env.scope.kind == .function && env.kindOf n == some .cell) then (n, NameKind.cell) else (n, k) }) = _ from e]
  exact this
/-- a comprehension within another one -/
theorem blkOk_in {N : List Str} {X : Cx} {s : Shared} {H : Hp} {sc scope : Scope} {cl : List (Str × Addr)} {C : Addr} {fp : List Addr} {own : List (Str × Nat)} (hN : X.N = N) (h : blkC N sc scope own = true) : BlkOk (X.blk s H sc (compEnvC sc cl C X.env) fp).N (X.blk s H sc (compEnvC sc cl C X.env) fp).env.scope scope own := by
  subst hN
  have b := blkOk_by h
  exact ⟨b.kind, b.uniq, b.ix, fun y hy e => relabel_free (b.free y hy e), b.own⟩
end DL

/-! dicts that are walked: keys, values, items -/
namespace DL
open PySem PySem.Spec PyProof.Rows L2
section
variable {X : Cx} {pins : List (Addr × Obj)} {σ : L2.St} {H : Hp} {s : Shared} {d : Addr} {o : Obj}
theorem frzT2 {kvs : List (List Key × V)} (I : Inv X pins σ H s) (h : H d = some (.frz o (.dT kvs))) :
    (d == sysModules) = false ∧ s.heap.get? d = some o ∧ o.ExactDict ∧ ∃ (es : Array DictEntry) (ep : Nat), o.data = .dict es ep ∧ es.size = kvs.length ∧
      ∀ (i : Nat) (hi : i < es.size) (k : List Key) (v : V), kvs[i]? = some (k, v) → ∃ q : Addr, es[i].key = .ref q ∧ H q = some (.tup (k.map kV)) ∧ RelV v es[i].val := by
  obtain ⟨hd, z, hs, xs, pr, o', es, ep, ho, hx, hdt, he, _⟩ := I.hok d _ h
  rw [hd] at ho
  cases ho
  refine ⟨hs, hd, hx, es, ep, hdt, ?_, fun i hi k v e => ?_⟩
  · have l1 : es.size = xs.length := size_of_entries he
    have l2 : kvs.length = xs.length := Paired.length pr
    omega
  · obtain ⟨b, hb, e1, e2, e3⟩ := paired_get pr e
    have q := entry_at he i
    rw [hb, Array.getElem?_eq_getElem hi] at q
    have q' := Option.some.inj q
    exact ⟨b.2.1, by rw [q']; rfl, e2, by rw [q']; exact e3⟩
end
def ItdT (d : Addr) (o : Obj) (kvs : List (List Key × V)) : It :=
  ⟨fun i H => H d = some (.frz o (.dT kvs)) ∧ i < kvs.length, fun i H x H' => H' = H ∧ ∃ k, kvs[i]? = some (k, x), fun i H => H d = some (.frz o (.dT kvs)) ∧ kvs.length ≤ i⟩
def ItiT (d : Addr) (o : Obj) (kvs : List (List Key × V)) : It :=
  ⟨fun i H => H d = some (.frz o (.dT kvs)) ∧ i < kvs.length, fun i H x H' => ∃ T k v q, kvs[i]? = some (k, v) ∧ H q = some (.tup (k.map kV)) ∧ x = .ref T ∧ H T = none ∧ H' = upd H T (.tup [.ref q, v]), fun i H => H d = some (.frz o (.dT kvs)) ∧ kvs.length ≤ i⟩
section
variable {P : Program} {w : World} {K : PySem.W.Frag} {tg : Expr} {d : Addr} {o : Obj} {es : Array DictEntry} {ep : Nat}
theorem turn_valsT {kvs : List (List Key × V)} (it : Addr) (hod : o.data = .dict es ep) : Turn P w K tg (ItdT d o kvs) [it] it (fun i h => h.IsValIter it d i kvs.length ep) where
  mem := by simp
  obj := fun i h st b hb => by
    have e : b = it := by simpa using hb
    subst e
    obtain ⟨oi, e, c, dd⟩ := st
    exact ⟨oi, e, fun v z => by rw [dd] at z; cases z⟩
  keep := fun i h h' st k => st.at fun oi e => k it (by simp) oi e
  item := by
    intro X hP hw hK hc i pins s σ H E I hf st hg
    subst hP hw hK
    obtain ⟨hd, hi⟩ := hg
    obtain ⟨f0, f1, f2, f3, f4, f5⟩ := hf it (by simp)
    obtain ⟨hs, hgd, hx, es', ep', hdt, hsz, ent⟩ := frzT2 I hd
    obtain ⟨rfl, rfl⟩ := dict_ep hod hdt
    obtain ⟨⟨k, v⟩, hkv⟩ : ∃ p, kvs[i]? = some p := ⟨kvs[i], List.getElem?_eq_getElem hi⟩
    have hi' : i < es'.size := by rw [hsz]; exact hi
    obtain ⟨q, _, _, ru⟩ := ent i hi' k v hkv
    rw [← hsz] at st
    refine wpAny_pyNext_values_item_raw st ⟨o, hgd, hx, hdt⟩ hi' fun h' st' sb => ?_
    have I1 : Inv X pins σ H { s with heap := h' } := I.turned (t' := s.toks) (fun b ob hb e => (sb.2 b hb).trans e) f0 f1 f3 f4 f5
    obtain ⟨oi, e, c, dd⟩ := id st'
    refine ⟨es'[i].val, rfl, go_of (s := { s with heap := h' }) e c dd (by decide) ⟨v, H, I1, ru, ⟨rfl, k, hkv⟩, ?_, fun b hb => (hf b hb).1⟩⟩
    show h'.IsValIter it d (i + 1) kvs.length _
    rw [← hsz]
    exact st'
  done := by
    intro X hP hw hK hc i pins s σ H E I hf st hg
    subst hP hw hK
    obtain ⟨hd, hi⟩ := hg
    obtain ⟨f0, f1, f2, f3, f4, f5⟩ := hf it (by simp)
    obtain ⟨hs, hgd, hx, es', ep', hdt, hsz, ent⟩ := frzT2 I hd
    obtain ⟨rfl, rfl⟩ := dict_ep hod hdt
    rw [← hsz] at st
    exact wpAny_pyNext_values_end_raw (I.ok.hd hc) st ⟨o, hgd, hx, hdt⟩ (by omega) fun h' eb => ⟨rfl, I.turned (t' := s.toks) (fun b ob hb e => eb b ob hb e) f0 f1 f3 f4 f5⟩
  self := fun A i s Q E st h => wpAny_pyIter_valiter st h
theorem turn_itemsT {kvs : List (List Key × V)} {elts : List Expr} {kk : Nat} {tpos : Pos} (it : Addr) (hod : o.data = .dict es ep) :
    Turn P w K (.Tuple elts kk tpos) (ItiT d o kvs) [it] it (fun i h => ∃ ok ov, IsItemIter h it d i kvs.length ep ok ov) where
  mem := by simp
  obj := fun i h st b hb => by
    have e : b = it := by simpa using hb
    subst e
    obtain ⟨ok, ov, e⟩ := st
    exact ⟨_, e, fun v z => nomatch z⟩
  keep := fun i h h' st k => let ⟨ok, ov, e⟩ := st; ⟨ok, ov, k it (by simp) _ e⟩
  item := by
    intro X hP hw hK hc i pins s σ H E I hf st hg
    subst hP hw hK
    obtain ⟨hd, hi⟩ := hg
    obtain ⟨hs, hgd, hx, es', ep', hdt, hsz, ent⟩ := frzT2 I hd
    obtain ⟨rfl, rfl⟩ := dict_ep hod hdt
    obtain ⟨⟨k, v⟩, hkv⟩ : ∃ p, kvs[i]? = some p := ⟨kvs[i], List.getElem?_eq_getElem hi⟩
    have hi' : i < es'.size := by rw [hsz]; exact hi
    obtain ⟨q, hkq, hq, ru⟩ := ent i hi' k v hkv
    obtain ⟨ok, ov, he⟩ := st
    rw [← hsz] at he
    have hlt : it < s.heap.objs.size := Heap.lt_size he
    refine wpAny_pyNext_items_item_raw he ⟨o, hgd, hx, hdt⟩ hi' fun h' ho hT hz hk => ?_
    refine ⟨_, rfl, wpAny_letOwnedTupleGo_items (s := { s with heap := h' }) ho fun h'' he' sb => ?_⟩
    have hT2 : h''.get? s.heap.objs.size = some { cls := .type "tuple", data := .seq #[es'[i].key, es'[i].val] } := (sb.2 _ (Nat.ne_of_gt hlt)).trans hT
    have new : ObjOk X.prog X.w (upd H s.heap.objs.size (.tup [.ref q, v])) h'' s.heap.objs.size (.tup [.ref q, v]) :=
      ⟨by show 2 ≤ sizeLine; decide, [es'[i].key, es'[i].val], .cons hkq (.cons ru .nil), ⟨_, hT2, rfl, _, rfl⟩⟩
    have I1 : Inv X pins σ (upd H s.heap.objs.size (.tup [.ref q, v])) { s with heap := h'' } :=
      I.turnedNew (t' := s.toks) (ch := [it]) (fun b ob hb e => (sb.2 b (by simpa using hb)).trans (hk b ob (by simpa using hb) e)) hf (Nat.le_refl _) new
    refine ⟨.ref s.heap.objs.size, _, I1, rfl, ⟨_, k, v, q, hkv, hq, rfl, I.hok.fresh (Nat.le_refl _), rfl⟩, ⟨es'[i].key, es'[i].val, ?_⟩, fun b hb => ?_⟩
    · rw [← hsz]; exact he'
    · have e : b = it := by simpa using hb
      rw [e, upd_ne (Nat.ne_of_lt hlt)]
      exact (hf it (by simp)).1
  done := by
    intro X hP hw hK hc i pins s σ H E I hf st hg
    subst hP hw hK
    obtain ⟨hd, hi⟩ := hg
    obtain ⟨f0, f1, f2, f3, f4, f5⟩ := hf it (by simp)
    obtain ⟨hs, hgd, hx, es', ep', hdt, hsz, ent⟩ := frzT2 I hd
    obtain ⟨rfl, rfl⟩ := dict_ep hod hdt
    obtain ⟨ok, ov, he⟩ := st
    rw [← hsz] at he
    exact wpAny_pyNext_items_end_raw (I.ok.hd hc) he ⟨o, hgd, hx, hdt⟩ (by omega) fun h' eb => ⟨rfl, I.turned (t' := s.toks) (fun b ob hb e => eb b ob hb e) f0 f1 f3 f4 f5⟩
  self := fun A i s Q E st h => let ⟨_, _, e⟩ := st; PySem.W.kcp_self e h
end
/-- both kinds of keys -/
def iVals2 (td : TE) : TI := fun σ H R => td σ H fun x H1 => ∃ d o, x = .ref d ∧ ((∃ kvs, H1 d = some (.frz o (.dK kvs)) ∧ R (Itd d o kvs) H1) ∨ ∃ kvs, H1 d = some (.frz o (.dT kvs)) ∧ R (ItdT d o kvs) H1)
def iItems2 (td : TE) : TI := fun σ H R => td σ H fun x H1 => ∃ d o, x = .ref d ∧ ((∃ kvs, H1 d = some (.frz o (.dK kvs)) ∧ R (Iti d o kvs) H1) ∨ ∃ kvs, H1 d = some (.frz o (.dT kvs)) ∧ R (ItiT d o kvs) H1)
section
variable {X : Cx} {tg e : Expr} {td : TE} {apos cpos : Pos}
theorem pi_values2 (he : PE X e td) (hbase : attributeBase e "values" X.env (eval e X.env) = eval e X.env := by rfl) (hline : (apos.endLine == cpos.line) = true := by rfl) : PI X tg (.Call (.Attribute e "values" apos) [] [] cpos) (iVals2 td) := by
  refine ⟨fun pins s σ H R I h => ?_⟩
  refine wpAny_Call_method (T := "dict") (id := "dict.values") hbase rfl hline F.plainAttrs_dict F.slot_dict_values F.type_dict_values (thn (he.run pins s σ H _ I h) fun u s1 ⟨x, H1, I1, rx, d, o, ex, hq⟩ => ?_)
  subst ex
  obtain rfl : u = Value.ref d := rx
  have raw : ∃ (es : Array DictEntry) (ep : Nat), (d == sysModules) = false ∧ s1.heap.get? d = some o ∧ o.ExactDict ∧ o.data = .dict es ep ∧ ∃ (J : It) (tn : Addr → Nat → Heap → Prop), (∀ it, Turn X.prog X.w X.K tg J [it] it (tn it)) ∧ (∀ (it : Addr) (h : Heap), h.get? it = some { cls := .type "dict_valueiterator", data := .fields #[.ref d, .int 0 0, .int es.size 0, .int ep 0] } → tn it 0 h) ∧ R J H1 := by
    rcases hq with ⟨kvs, hd, q⟩ | ⟨kvs, hd, q⟩
    · obtain ⟨hs, hgd, hx, es, ep, vs, hdt, hsz, kv, hm⟩ := I1.frzK hd
      exact ⟨es, ep, hs, hgd, hx, hdt, _, _, fun it => turn_vals it hdt, fun it h e => ⟨_, e, rfl, by rw [hsz]; rfl⟩, q⟩
    · obtain ⟨hs, hgd, hx, es, ep, hdt, hsz, ent⟩ := frzT2 I1 hd
      exact ⟨es, ep, hs, hgd, hx, hdt, _, _, fun it => turn_valsT it hdt, fun it h e => ⟨_, e, rfl, by rw [hsz]; rfl⟩, q⟩
  obtain ⟨es, ep, hs, hgd, hx, hdt, J, tn, T, st, q⟩ := raw
  have hty : s1.TypeIs (.ref d) "dict" := ⟨o, hgd, hx.1⟩
  refine ⟨hty, fun a e => by cases e; exact ⟨o, hgd, hx.2.1⟩, ?_⟩
  have I2 : Inv X pins σ H1 { s1 with heap := s1.heap.push { cls := .type "dict_values", data := .fields #[.ref d] } } := I1.kept (t' := s1.toks) fun b ob q => Heap.get?_push_of_some _ q
  have fin : wpAny (model X.prog X.w) X.A (pyIter (.ref s1.heap.objs.size)) (PIE X pins σ tg R) X.xe { s1 with heap := s1.heap.push { cls := .type "dict_values", data := .fields #[.ref d] } } :=
    wpAny_pyIter_values_raw (d := d) (es := es) (ep := ep) ⟨_, Heap.get?_push_size _ rfl, rfl, rfl⟩ ⟨o, Heap.get?_push_of_some _ hgd, hx, hdt⟩ (pi_one (tk := s1.toks) I2 _ (T _) (st _ _ (Heap.get?_push_size _ rfl)) q)
  show wpAny _ _ (callWith cpos (.builtin "dict.values") [.ref d] [] []) _ X.xe s1
  exact method_meetsIn F.slot_dict_values F.entry_dict_values rfl (PySem.evalArgs_none ⟨rfl, hty, F.args_dict_values_1 _, _, meets_dict_values_raw d hs, ⟨es, ep, o, hgd, hx, hdt⟩, fin⟩)
theorem pi_items2 {elts : List Expr} {kk : Nat} {tpos : Pos} (he : PE X e td) (hbase : attributeBase e "items" X.env (eval e X.env) = eval e X.env := by rfl) (hline : (apos.endLine == cpos.line) = true := by rfl) : PI X (.Tuple elts kk tpos) (.Call (.Attribute e "items" apos) [] [] cpos) (iItems2 td) := by
  refine ⟨fun pins s σ H R I h => ?_⟩
  refine wpAny_Call_method (T := "dict") (id := "dict.items") hbase rfl hline F.plainAttrs_dict F.slot_dict_items F.type_dict_items (thn (he.run pins s σ H _ I h) fun u s1 ⟨x, H1, I1, rx, d, o, ex, hq⟩ => ?_)
  subst ex
  obtain rfl : u = Value.ref d := rx
  have raw : ∃ (es : Array DictEntry) (ep : Nat), (d == sysModules) = false ∧ s1.heap.get? d = some o ∧ o.ExactDict ∧ o.data = .dict es ep ∧ ∃ (J : It) (tn : Addr → Nat → Heap → Prop), (∀ it, Turn X.prog X.w X.K (.Tuple elts kk tpos) J [it] it (tn it)) ∧ (∀ (it : Addr) (h : Heap), h.get? it = some { cls := .type "dict_itemiterator", data := .fields #[.none, .bool false, .ref d, .int 0 0, .int es.size 0, .int ep 0, .none, .none] } → tn it 0 h) ∧ R J H1 := by
    rcases hq with ⟨kvs, hd, q⟩ | ⟨kvs, hd, q⟩
    · obtain ⟨hs, hgd, hx, es, ep, vs, hdt, hsz, kv, hm⟩ := I1.frzK hd
      exact ⟨es, ep, hs, hgd, hx, hdt, _, _, fun it => turn_items it hdt, fun it h e => ⟨.none, .none, by rw [← hsz]; exact e⟩, q⟩
    · obtain ⟨hs, hgd, hx, es, ep, hdt, hsz, ent⟩ := frzT2 I1 hd
      exact ⟨es, ep, hs, hgd, hx, hdt, _, _, fun it => turn_itemsT it hdt, fun it h e => ⟨.none, .none, by rw [← hsz]; exact e⟩, q⟩
  obtain ⟨es, ep, hs, hgd, hx, hdt, J, tn, T, st, q⟩ := raw
  have hty : s1.TypeIs (.ref d) "dict" := ⟨o, hgd, hx.1⟩
  refine ⟨hty, fun a e => by cases e; exact ⟨o, hgd, hx.2.1⟩, ?_⟩
  have I2 : Inv X pins σ H1 { s1 with heap := s1.heap.push { cls := .type "dict_items", data := .fields #[.ref d] } } := I1.kept (t' := s1.toks) fun b ob q => Heap.get?_push_of_some _ q
  have fin : wpAny (model X.prog X.w) X.A (pyIter (.ref s1.heap.objs.size)) (PIE X pins σ (.Tuple elts kk tpos) R) X.xe { s1 with heap := s1.heap.push { cls := .type "dict_items", data := .fields #[.ref d] } } :=
    wpAny_pyIter_items_raw (d := d) (es := es) (ep := ep) ⟨_, Heap.get?_push_size _ rfl, rfl, rfl⟩ ⟨o, Heap.get?_push_of_some _ hgd, hx, hdt⟩ (pi_one (tk := s1.toks) I2 _ (T _) (st _ _ (Heap.get?_push_size _ rfl)) q)
  show wpAny _ _ (callWith cpos (.builtin "dict.items") [.ref d] [] []) _ X.xe s1
  exact method_meetsIn F.slot_dict_items F.entry_dict_items rfl (PySem.evalArgs_none ⟨rfl, hty, F.args_dict_items_1 _, _, meets_dict_items_raw d hs, ⟨es, ep, o, hgd, hx, hdt⟩, fin⟩)
end
/-! what they walk, as data -/
def iKeysD (f : DL.Env → Res D) : DL.Env → Res (List D) := fun e => (f e).bind fun d => match d with
  | .dct _ kvs => .ok (kvs.map (·.1))
  | _ => .bad
def iValsD (f : DL.Env → Res D) : DL.Env → Res (List D) := fun e => (f e).bind fun d => match d with
  | .dct _ kvs => .ok (kvs.map (·.2))
  | _ => .bad
def iItemsD (f : DL.Env → Res D) : DL.Env → Res (List D) := fun e => (f e).bind fun d => match d with
  | .dct _ kvs => .ok (kvs.map fun p => D.tup [p.1, p.2])
  | _ => .bad
section
variable {K : PySem.W.Frag} {B G : Hp} {d : Addr} {o : Obj}
theorem repV_get : ∀ {kvs : List (D × D)} {vs : List V} {i : Nat} {v : V}, RepV K G kvs vs → vs[i]? = some v → ∃ p, kvs[i]? = some p ∧ Rep K G p.2 v
  | [], _, i, v, e, h => by rw [show _ = [] from e] at h; simp at h
  | (k, x) :: _, _, 0, v, ⟨w, r, e, a, b⟩, h => by rw [e] at h; cases h; exact ⟨_, rfl, a⟩
  | (k, x) :: _, _, i + 1, v, ⟨w, r, e, a, b⟩, h => by
    rw [e] at h
    obtain ⟨p, h1, h2⟩ := repV_get (i := i) (v := v) b (by simpa using h)
    exact ⟨p, by simpa using h1, h2⟩
theorem rep_keyD (k : Key) : Rep K G (keyD k) (kV k) := by cases k <;> rfl
theorem repL_keysD : ∀ (k : List Key), RepL K G (k.map keyD) (k.map kV)
  | [] => rfl
  | a :: r => ⟨_, _, rfl, rep_keyD a, repL_keysD r⟩
theorem key_at {α β γ : Type} {kvs : List (D × γ)} {ps : List (α × β)} {f : α → D} (hk : kvs.map (·.1) = ps.map fun p => f p.1) {i : Nat} {p : α × β} (h : ps[i]? = some p) : ∃ q, kvs[i]? = some q ∧ q.1 = f p.1 := by
  have e : (kvs.map (·.1))[i]? = some (f p.1) := by rw [hk, List.getElem?_map, h]; rfl
  rw [List.getElem?_map] at e
  cases hq : kvs[i]? with
  | none => rw [hq] at e; cases e
  | some q => rw [hq] at e; exact ⟨q, rfl, Option.some.inj e⟩
theorem keys_len {α β : Type} {kvs : List (D × D)} {ps : List (α × β)} {f : α → D} (hk : kvs.map (·.1) = ps.map fun p => f p.1) : kvs.length = ps.length := by
  have := congrArg List.length hk
  rwa [List.length_map, List.length_map] at this
theorem walk_keysK {kvs : List (D × D)} {ps : List (Key × V)} (h : B d = some (.frz o (.dK ps))) (hk : kvs.map (·.1) = ps.map fun p => keyD p.1) : WalkOf K (Itk d o ps) (kvs.map (·.1)) B G where
  go := fun H i s hi => ⟨s _ _ h, by rw [List.length_map, keys_len hk] at hi; exact hi⟩
  stop := fun H s => ⟨s _ _ h, by rw [List.length_map, keys_len hk]; exact Nat.le_refl _⟩
  yld := fun H G2 i x H' s g g2 hi y => by
    obtain ⟨e, k, v, hp, ex⟩ := y
    subst e ex
    exact ⟨keyD k, G2, by rw [hk, List.getElem?_map, hp]; rfl, Ext.refl g2, rep_keyD k⟩
/-- a tuple that stands there may be known -/
theorem ext_tup {H G2 : Hp} {q : Addr} {vs : List V} (g2 : Sub G2 H) (hq : H q = some (.tup vs)) : ∃ G', Ext H G2 H G' ∧ G' q = some (.tup vs) := by
  refine ⟨fun b => if b = q then H q else G2 b, ⟨Sub.refl _, fun b o z => ?_, fun b o z => ?_, fun b z => ?_⟩, ?_⟩
  · show (if b = q then H q else G2 b) = some o
    by_cases hb : b = q
    · rw [if_pos hb]; rw [hb] at z; exact g2 _ _ z
    · rw [if_neg hb]; exact z
  · have z' : (if b = q then H q else G2 b) = some o := z
    by_cases hb : b = q
    · rw [if_pos hb] at z'; rw [hb]; exact z'
    · rw [if_neg hb] at z'; exact g2 _ _ z'
  · have z' : (if b = q then H q else G2 b) ≠ none := z
    by_cases hb : b = q
    · rw [hb]; exact .inr (.inr ⟨vs, hq⟩)
    · rw [if_neg hb] at z'; exact .inl z'
  · show (if q = q then H q else G2 q) = _
    rw [if_pos rfl]; exact hq
theorem walk_keysT {kvs : List (D × D)} {ps : List (List Key × V)} (h : B d = some (.frz o (.dT ps))) (hk : kvs.map (·.1) = ps.map fun p => keyT p.1) : WalkOf K (Itkt d o ps) (kvs.map (·.1)) B G where
  go := fun H i s hi => ⟨s _ _ h, by rw [List.length_map, keys_len hk] at hi; exact hi⟩
  stop := fun H s => ⟨s _ _ h, by rw [List.length_map, keys_len hk]; exact Nat.le_refl _⟩
  yld := fun H G2 i x H' s g g2 hi y => by
    obtain ⟨e, k, v, q, hp, ex, hq⟩ := y
    subst e ex
    obtain ⟨G', x1, x2⟩ := ext_tup g2 hq
    exact ⟨keyT k, G', by rw [hk, List.getElem?_map, hp]; rfl, x1, ⟨q, _, rfl, x2, repL_keysD k⟩⟩
theorem walk_valsK {kvs : List (D × D)} {ps : List (Key × V)} (h : B d = some (.frz o (.dK ps))) (hk : kvs.map (·.1) = ps.map fun p => keyD p.1) (r : RepV K G kvs (ps.map (·.2))) : WalkOf K (Itd d o ps) (kvs.map (·.2)) B G where
  go := fun H i s hi => ⟨s _ _ h, by rw [List.length_map, keys_len hk] at hi; exact hi⟩
  stop := fun H s => ⟨s _ _ h, by rw [List.length_map, keys_len hk]; exact Nat.le_refl _⟩
  yld := fun H G2 i x H' s g g2 hi y => by
    obtain ⟨e, k, hp⟩ := y
    subst e
    obtain ⟨p, h1, h2⟩ := repV_get (i := i) (v := x) r (by rw [List.getElem?_map, hp]; rfl)
    exact ⟨p.2, G2, by rw [List.getElem?_map, h1]; rfl, Ext.refl g2, h2.mono g⟩
theorem walk_valsT {kvs : List (D × D)} {ps : List (List Key × V)} (h : B d = some (.frz o (.dT ps))) (hk : kvs.map (·.1) = ps.map fun p => keyT p.1) (r : RepV K G kvs (ps.map (·.2))) : WalkOf K (ItdT d o ps) (kvs.map (·.2)) B G where
  go := fun H i s hi => ⟨s _ _ h, by rw [List.length_map, keys_len hk] at hi; exact hi⟩
  stop := fun H s => ⟨s _ _ h, by rw [List.length_map, keys_len hk]; exact Nat.le_refl _⟩
  yld := fun H G2 i x H' s g g2 hi y => by
    obtain ⟨e, k, hp⟩ := y
    subst e
    obtain ⟨p, h1, h2⟩ := repV_get (i := i) (v := x) r (by rw [List.getElem?_map, hp]; rfl)
    exact ⟨p.2, G2, by rw [List.getElem?_map, h1]; rfl, Ext.refl g2, h2.mono g⟩
theorem walk_itemsK {kvs : List (D × D)} {ps : List (Key × V)} (h : B d = some (.frz o (.dK ps))) (hk : kvs.map (·.1) = ps.map fun p => keyD p.1) (r : RepV K G kvs (ps.map (·.2))) : WalkOf K (Iti d o ps) (kvs.map fun p => D.tup [p.1, p.2]) B G where
  go := fun H i s hi => ⟨s _ _ h, by rw [List.length_map, keys_len hk] at hi; exact hi⟩
  stop := fun H s => ⟨s _ _ h, by rw [List.length_map, keys_len hk]; exact Nat.le_refl _⟩
  yld := fun H G2 i x H' s g g2 hi y => by
    obtain ⟨T, k, v, hp, ex, hT, e⟩ := y
    subst ex e
    obtain ⟨p, h1, h2⟩ := repV_get (i := i) (v := v) r (by rw [List.getElem?_map, hp]; rfl)
    obtain ⟨p', h1', h3⟩ := key_at hk hp
    rw [h1] at h1'; cases h1'
    have xt := Ext.laid (o := .tup [kV k, v]) g2 hT
    exact ⟨.tup [p.1, p.2], _, by rw [List.getElem?_map, h1]; rfl, xt, ⟨T, _, rfl, upd_same, ⟨_, _, rfl, by rw [h3]; exact rep_keyD k, _, _, rfl, (h2.mono g).mono xt.gg, rfl⟩⟩⟩
theorem walk_itemsT {kvs : List (D × D)} {ps : List (List Key × V)} (h : B d = some (.frz o (.dT ps))) (hk : kvs.map (·.1) = ps.map fun p => keyT p.1) (r : RepV K G kvs (ps.map (·.2))) : WalkOf K (ItiT d o ps) (kvs.map fun p => D.tup [p.1, p.2]) B G where
  go := fun H i s hi => ⟨s _ _ h, by rw [List.length_map, keys_len hk] at hi; exact hi⟩
  stop := fun H s => ⟨s _ _ h, by rw [List.length_map, keys_len hk]; exact Nat.le_refl _⟩
  yld := fun H G2 i x H' s g g2 hi y => by
    obtain ⟨T, k, v, q, hp, hq, ex, hT, e⟩ := y
    subst ex e
    obtain ⟨p, h1, h2⟩ := repV_get (i := i) (v := v) r (by rw [List.getElem?_map, hp]; rfl)
    obtain ⟨p', h1', h3⟩ := key_at hk hp
    rw [h1] at h1'; cases h1'
    obtain ⟨G', x1, x2⟩ := ext_tup g2 hq
    have xt := x1.trans (Ext.laid (o := .tup [.ref q, v]) x1.gh hT)
    refine ⟨.tup [p.1, p.2], _, by rw [List.getElem?_map, h1]; rfl, xt, ⟨T, _, rfl, upd_same, ⟨_, _, rfl, ?_, _, _, rfl, (h2.mono g).mono xt.gg, rfl⟩⟩⟩
    rw [h3]
    exact Rep.mono (Ext.laid (o := .tup [.ref q, v]) x1.gh hT).gg (d := keyT k) ⟨q, _, rfl, x2, repL_keysD k⟩
end
section
variable {X : Cx} {W : WX} {A : Nat → Prop} {tg ex : Expr} {f : DL.Env → Res D} {apos cpos : Pos}
theorem di_keys (h : DE X W A ex f) : DI X W A tg ex (iKeysD f) :=
  (pi_keys h).imp fun σ H Q ⟨e, G, E, p⟩ => ⟨e, G, E, p.split.imp fun d H1 G1 x1 p1 v rv => by
    cases d with
    | dct t kvs =>
      obtain ⟨a, rfl, ⟨_, od, ps, s, k, r⟩ | ⟨_, od, ps, s, k, r⟩⟩ := rv
      · exact ⟨a, od, rfl, .inl ⟨ps, x1.gh _ _ s, PostG.here (a := kvs.map (·.1)) p1 x1.gh _ (walk_keysK s k)⟩⟩
      · exact ⟨a, od, rfl, .inr ⟨ps, x1.gh _ _ s, PostG.here (a := kvs.map (·.1)) p1 x1.gh _ (walk_keysT s k)⟩⟩
    | _ => exact (show False from p1).elim⟩
theorem di_vals (h : DE X W A ex f) (hbase : attributeBase ex "values" X.env (eval ex X.env) = eval ex X.env := by rfl) (hline : (apos.endLine == cpos.line) = true := by rfl) : DI X W A tg (.Call (.Attribute ex "values" apos) [] [] cpos) (iValsD f) :=
  (pi_values2 h hbase hline).imp fun σ H Q ⟨e, G, E, p⟩ => ⟨e, G, E, p.split.imp fun d H1 G1 x1 p1 v rv => by
    cases d with
    | dct t kvs =>
      obtain ⟨a, rfl, ⟨_, od, ps, s, k, r⟩ | ⟨_, od, ps, s, k, r⟩⟩ := rv
      · exact ⟨a, od, rfl, .inl ⟨ps, x1.gh _ _ s, PostG.here (a := kvs.map (·.2)) p1 x1.gh _ (walk_valsK s k r)⟩⟩
      · exact ⟨a, od, rfl, .inr ⟨ps, x1.gh _ _ s, PostG.here (a := kvs.map (·.2)) p1 x1.gh _ (walk_valsT s k r)⟩⟩
    | _ => exact (show False from p1).elim⟩
theorem di_items {elts : List Expr} {kk : Nat} {tpos : Pos} (h : DE X W A ex f) (hbase : attributeBase ex "items" X.env (eval ex X.env) = eval ex X.env := by rfl) (hline : (apos.endLine == cpos.line) = true := by rfl) : DI X W A (.Tuple elts kk tpos) (.Call (.Attribute ex "items" apos) [] [] cpos) (iItemsD f) :=
  (pi_items2 h hbase hline).imp fun σ H Q ⟨e, G, E, p⟩ => ⟨e, G, E, p.split.imp fun d H1 G1 x1 p1 v rv => by
    cases d with
    | dct t kvs =>
      obtain ⟨a, rfl, ⟨_, od, ps, s, k, r⟩ | ⟨_, od, ps, s, k, r⟩⟩ := rv
      · exact ⟨a, od, rfl, .inl ⟨ps, x1.gh _ _ s, PostG.here (a := kvs.map fun p => D.tup [p.1, p.2]) p1 x1.gh _ (walk_itemsK s k r)⟩⟩
      · exact ⟨a, od, rfl, .inr ⟨ps, x1.gh _ _ s, PostG.here (a := kvs.map fun p => D.tup [p.1, p.2]) p1 x1.gh _ (walk_itemsT s k r)⟩⟩
    | _ => exact (show False from p1).elim⟩
end
end DL

/-! dicts with tuple keys compared (values whole numbers) -/
namespace DL.EqH
open Lean PySem PySem.Calls PyProof.Rows PyProof.V PySem.Spec PySem.W
section
variable {prog : Program} {w : World} {K : Type} [DecidableEq K] {knd : HeapKind prog w K} {A : Around} {E : Value → Shared → Prop} {s : Shared}
inductive HitsH {K : Type} [DecidableEq K] (A : Around) (s : Shared) (kb : List (K × Addr × Value)) : List (K × Addr × Value) → Bool → Prop
  | nil : HitsH A s kb [] true
  | miss {k : K} {v : Addr × Value} {r : List (K × Addr × Value)} : (∀ (j : Nat) (p : Addr × Value), kb[j]? ≠ some (k, p)) → HitsH A s kb ((k, v) :: r) false
  | hit {k : K} {v y : Addr × Value} {r : List (K × Addr × Value)} {e b : Bool} {j : Nat} : kb[j]? = some (k, y) → SeqAt.EqAt A s v.2 y.2 e → HitsH A s kb r b → HitsH A s kb ((k, v) :: r) (e && b)
theorem HitsH.inv {kb : List (K × Addr × Value)} {k : K} {v : Addr × Value} {r : List (K × Addr × Value)} {b : Bool} (h : HitsH A s kb ((k, v) :: r) b) :
    ((∀ (j : Nat) (p : Addr × Value), kb[j]? ≠ some (k, p)) ∧ b = false) ∨ ∃ (j : Nat) (y : Addr × Value) (e b' : Bool), kb[j]? = some (k, y) ∧ SeqAt.EqAt A s v.2 y.2 e ∧ HitsH A s kb r b' ∧ b = (e && b') := by
  cases h with
  | miss hn => exact .inl ⟨hn, rfl⟩
  | hit hy he hr => exact .inr ⟨_, _, _, _, hy, he, hr, rfl⟩
theorem once {kb : List (K × Addr × Value)} (hn : (kb.map (·.1)).Nodup) {i j : Nat} {k : K} {p q : Addr × Value} (h1 : kb[i]? = some (k, p)) (h2 : kb[j]? = some (k, q)) : i = j := by
  obtain ⟨a1, a2⟩ := List.getElem?_eq_some_iff.mp h1
  obtain ⟨b1, b2⟩ := List.getElem?_eq_some_iff.mp h2
  have l1 : i < (kb.map (·.1)).length := by rwa [List.length_map]
  have l2 : j < (kb.map (·.1)).length := by rwa [List.length_map]
  refine (List.getElem_inj (h₀ := l1) (h₁ := l2) hn).mp ?_
  rw [List.getElem_map, List.getElem_map, a2, b2]
theorem samePairsH {nm : String} {a b : Addr} {ka kb : List (K × Addr × Value)} {r : Bool} {Q : Bool → Shared → Prop} (hu : knd.room A) (ha : (a == sysModules) = false) (hb : (b == sysModules) = false)
    (da : s.heap.DictOfH knd a ka) (db : s.heap.DictOfH knd b kb) (hits : ka.length = kb.length → HitsH A s kb ka r) (h : Q (ka.length == kb.length && r) s) :
    wpAny (model prog w) A (Builtin.Dict.samePairs nm a b) Q E s := by
  obtain ⟨oa, es, ep, hoa, _, hda, hea, hisa, hna⟩ := da
  obtain ⟨ob, es', ep', hob, _, hdb, heb, hisb, hnb⟩ := db
  have hla : ka.length = es.size := (size_of_entries hea).symm
  have hlb : kb.length = es'.size := (size_of_entries heb).symm
  rw [hla, hlb] at h
  unfold Builtin.Dict.samePairs Builtin.Dict.showsAll
  rw [if_neg (show ¬ (a == sysModules) = true by rw [ha]; exact Bool.false_ne_true), if_neg (show ¬ (b == sysModules) = true by rw [hb]; exact Bool.false_ne_true)]
  refine wpAny_bind (wpAny_pure (wpAny_bind (wpAny_pure ?_)))
  refine wpAny_bind (wpAny_dictEntries hoa hda ?_)
  dsimp only
  refine wpAny_bind (wpAny_dictEntries hob hdb ?_)
  by_cases hsz : es.size = es'.size
  case neg =>
    rw [if_pos (by simpa using hsz)]
    have hbf : (es.size == es'.size) = false := by simpa using hsz
    rw [hbf, Bool.false_and] at h
    exact wpAny_bind (wpAny_rule (wpAny_pure h))
  case pos =>
    have h' : Q r s := by simpa [hsz] using h
    have hits' := hits (by rw [hla, hlb]; exact hsz)
    rw [if_neg (by rw [hsz]; simp)]
    refine wpAny_bind (wpAny_dictEpoch hoa hda ?_)
    refine wpAny_bind ?_
    rw [Std.Legacy.Range.forIn_eq_forIn_range']
    simp only [Std.Legacy.Range.size, Nat.sub_zero, Nat.add_sub_cancel, Nat.div_one]
    refine wpAny_forIn_list _
      (fun rest q s' => s' = s ∧ q = (none, ()) ∧ ∃ i, rest = List.range' i (es.size - i) ∧ i ≤ es.size ∧ HitsH A s kb (ka.drop i) r)
      _ ?_ ?_ _ _ ⟨rfl, rfl, 0, by simp, Nat.zero_le _, hits'⟩
    · rintro x rest q s' ⟨rfl, rfl, i, hr, hi, hpre⟩
      have hlt : i < es.size := by
        rcases Nat.lt_or_ge i es.size with h | h
        · exact h
        · rw [Nat.sub_eq_zero_of_le h] at hr; simp at hr
      obtain ⟨rfl, hrest⟩ : x = i ∧ rest = List.range' (i + 1) (es.size - (i + 1)) := by
        have e : es.size - i = (es.size - (i + 1)) + 1 := by omega
        rw [e, List.range'_succ] at hr
        injection hr with h1 h2
        exact ⟨h1, h2⟩
      refine wpAny_bind (wpAny_dictEntries hoa hda ?_)
      have hlt' : x < ka.length := by rw [hla]; exact hlt
      obtain ⟨k, v, hkv⟩ : ∃ k v, ka[x] = (k, v) := ⟨_, _, rfl⟩
      have hka : ka[x]? = some (k, v) := by rw [List.getElem?_eq_getElem hlt', hkv]
      have hdrop : ka.drop x = (k, v) :: ka.drop (x + 1) := by rw [← hkv]; exact List.drop_eq_getElem_cons hlt'
      have hent : es[x]? = some (entryOfKey knd (k, v)) := by rw [entry_at hea, hka]; rfl
      rw [hent]
      rw [hdrop] at hpre
      have hkey : knd.is s'.heap k v.1 := hisa (k, v) (List.mem_of_getElem? hka)
      show wpAny _ _ (holding [(entryOfKey knd (k, v)).key, (entryOfKey knd (k, v)).val] _ >>= _) _ _ _
      refine wpAny_bind (wpAny_holding (wpAny_bind (wpAny_dictFind_heap (Q := fun r s1 => _) hu hkey hob hdb heb hisb hnb (fun hnone => ?_) fun j p hsome => ?_)))
      · rcases hpre.inv with ⟨_, er⟩ | ⟨j, y, _, _, hy, _⟩
        · rw [er] at h'
          refine wpAny_pure ?_
          show wpAny _ _ (if (!false) = true then _ else _) _ _ _
          rw [if_pos (by decide)]
          exact wpAny_pure (wpAny_pure h')
        · exact absurd hy (hnone j y)
      · have hent' : es'[j]? = some (entryOfKey knd (k, p)) := by rw [entry_at heb, hsome]; rfl
        refine wpAny_bind (wpAny_dictEntries hob hdb ?_)
        rw [hent']
        rcases hpre.inv with ⟨hn, _⟩ | ⟨j', y, e, b', hy, he, hrr, er⟩
        · exact absurd hsome (hn j p)
        · have hj := once hnb hy hsome
          subst hj
          rw [hsome] at hy
          have ey : p = y := by injection hy with hy; injection hy
          subst ey
          refine wpAny_holding (he prog w _ _ ?_)
          cases e with
          | false =>
            rw [er, Bool.false_and] at h'
            show wpAny _ _ (if (!false) = true then _ else _) _ _ _
            rw [if_pos (by decide)]
            exact wpAny_pure (wpAny_pure h')
          | true =>
            rw [Bool.true_and] at er
            rw [← er] at hrr
            show wpAny _ _ (if (!true) = true then _ else _) _ _ _
            rw [if_neg (by decide)]
            refine wpAny_bind (wpAny_dictEpoch hoa hda ?_)
            rw [if_neg (by simp)]
            exact wpAny_pure ⟨rfl, rfl, x + 1, hrest, hlt, hrr⟩
    · rintro q s' ⟨rfl, rfl, i, hr, hi, hpre⟩
      have hin : i = es.size := by
        rcases Nat.lt_or_ge i es.size with h | h
        · have e : es.size - i = (es.size - (i + 1)) + 1 := by omega
          rw [e, List.range'_succ] at hr; exact nomatch hr
        · exact Nat.le_antisymm hi h
      refine wpAny_pure ?_
      rw [hin, ← hla, List.drop_length] at hpre
      cases hpre
      exact h'
theorem eqH {a b : Addr} {ka kb : List (K × Addr × Value)} {r : Bool} {Q : Value → Shared → Prop} (hr : knd.room A.in1) (ha : (a == sysModules) = false) (hb : (b == sysModules) = false)
    (da : s.heap.DictOfH knd a ka) (db : s.heap.DictOfH knd b kb) (hu : A.units < cLine) (hits : ka.length = kb.length → HitsH A.in1 s kb ka r) (h : Q (.bool (ka.length == kb.length && r)) s) :
    wpAny (model prog w) A (compareOp .Eq (.ref a) (.ref b)) Q E s := by
  refine wpAny_richCompare_same_room (op := .Eq) da.typeIs db.typeIs PySem.F.slot_dict_eq (wpAny_call_entry PySem.F.slot_dict_eq da.typeIs PySem.F.entry_dict_eq ?_ (PySem.F.args_dict_eq_2 _ _)) hu
  show wpAny _ _ (Builtin.Dict.dictSlotArgs "__eq__" ⟨[.ref a, .ref b], []⟩ >>= _) _ _ s
  refine wpAny_bind ?_
  unfold Builtin.Dict.dictSlotArgs
  refine wpAny_bind (wpAny_notOrdered_dict da.typeIs ?_)
  show wpAny _ _ (pure (Value.ref a, Value.ref b)) _ _ s
  refine wpAny_pure ?_
  refine wpAny_bind (wpAny_isInstance (T := "dict") db.typeIs PySem.F.sub_dict_dict ?_)
  simp only [Bool.not_true, Bool.false_eq_true, if_false]
  refine wpAny_bind (wpAny_pure (wpAny_bind (wpAny_pure ?_)))
  refine wpAny_bind (samePairsH hr ha hb da db hits ?_)
  refine wpAny_pure ⟨_, rfl, ?_, ?_⟩
  · exact fun x => nomatch x
  · simpa using h
theorem neH {a b : Addr} {ka kb : List (K × Addr × Value)} {r : Bool} {Q : Value → Shared → Prop} (hr : knd.room A.in1) (ha : (a == sysModules) = false) (hb : (b == sysModules) = false)
    (da : s.heap.DictOfH knd a ka) (db : s.heap.DictOfH knd b kb) (hu : A.units < cLine) (hits : ka.length = kb.length → HitsH A.in1 s kb ka r) (h : Q (.bool (!(ka.length == kb.length && r))) s) :
    wpAny (model prog w) A (compareOp .NotEq (.ref a) (.ref b)) Q E s := by
  refine wpAny_richCompare_same_room (op := .NotEq) da.typeIs db.typeIs PySem.F.slot_dict_ne (wpAny_call_entry PySem.F.slot_dict_ne da.typeIs PySem.F.entry_dict_ne ?_ (PySem.F.args_dict_ne_2 _ _)) hu
  show wpAny _ _ (Builtin.Dict.dictSlotArgs "__ne__" ⟨[.ref a, .ref b], []⟩ >>= _) _ _ s
  refine wpAny_bind ?_
  unfold Builtin.Dict.dictSlotArgs
  refine wpAny_bind (wpAny_notOrdered_dict da.typeIs ?_)
  show wpAny _ _ (pure (Value.ref a, Value.ref b)) _ _ s
  refine wpAny_pure ?_
  refine wpAny_bind (wpAny_isInstance (T := "dict") db.typeIs PySem.F.sub_dict_dict ?_)
  simp only [Bool.not_true, Bool.false_eq_true, if_false]
  refine wpAny_bind (wpAny_pure (wpAny_bind (wpAny_pure ?_)))
  refine wpAny_bind (samePairsH hr ha hb da db hits ?_)
  refine wpAny_pure ⟨_, rfl, ?_, ?_⟩
  · exact fun x => nomatch x
  · simpa using h
end
end DL.EqH
namespace DL
open PySem PySem.Spec PyProof.Rows L2
section
def isIntV : V → Bool
  | .int _ => true
  | _ => false
def isIntD : D → Bool
  | .int _ => true
  | _ => false
theorem rep_int {K : PySem.W.Frag} {G : Hp} {d : D} {v : V} (h : isIntD d = true) (r : Rep K G d v) : ∃ i, d = .int i ∧ v = .int i := by
  cases d with
  | int i => exact ⟨i, rfl, r⟩
  | _ => cases h
open Classical in
/-- each of the one in the other -/
noncomputable def allHit {κ : Type} [DecidableEq κ] (ls : List (κ × V)) (ks : List (κ × V)) : Bool := ks.all fun p => decide (valV ls p.1 = some p.2)
theorem atKey_get {K : Type} [DecidableEq K] {xs : List (K × Addr × Value)} {k : K} {p : Addr × Value} (h : atKey xs k = some p) : ∃ j : Nat, xs[j]? = some (k, p) := by
  unfold atKey at h
  obtain ⟨x, hx, e⟩ := Option.map_eq_some_iff.mp h
  have hk := List.find?_some hx
  have hm := List.mem_of_find?_eq_some hx
  obtain ⟨j, hj⟩ := List.mem_iff_getElem?.mp hm
  refine ⟨j, ?_⟩
  rw [hj, ← e, ← of_decide_eq_true hk]
theorem hits_T {A : Around} {s : Shared} {H : Hp} {ls : List (List Key × V)} {vb : List (List Key × Addr × Value)} (rb : KT H ls vb) (hn : (vb.map (·.1)).Nodup) (hls : ls.all (fun p => isIntV p.2) = true) {ks : List (List Key × V)} {va : List (List Key × Addr × Value)} (ra : KT H ks va) :
    ks.all (fun p => isIntV p.2) = true → EqH.HitsH A s vb va (allHit ls ks) := by
  induction ra with
  | nil => intro _; exact .nil
  | @cons p q ps qs h t ih =>
    intro hk
    obtain ⟨h1, _, h3⟩ := h
    rw [List.all_cons, Bool.and_eq_true] at hk
    obtain ⟨k, a, v⟩ := q
    have h1 : p.1 = k := h1
    have e : allHit ls (p :: ps) = (decide (valV ls p.1 = some p.2) && allHit ls ps) := by unfold allHit; rw [List.all_cons]
    rw [e]
    have rr := rb.val p.1
    cases hv : valV ls p.1 with
    | none =>
      rw [hv] at rr
      have z := RelO.none_of rr
      have z : atKey vb p.1 = none := by simpa using z
      rw [show decide ((none : Option V) = some p.2) = false from decide_eq_false (by simp), Bool.false_and]
      refine .miss fun j y hj => ?_
      rw [← h1] at hj
      rw [atKey_of_get hn hj] at z
      cases z
    | some w =>
      rw [hv] at rr
      obtain ⟨u, hu, ru⟩ := RelO.some_of rr
      obtain ⟨y, hy, ey⟩ := Option.map_eq_some_iff.mp hu
      obtain ⟨j, hj⟩ := atKey_get hy
      rw [h1] at hj
      refine .hit hj ?_ (ih hk.2)
      -- both are numbers
      obtain ⟨i, hi⟩ : ∃ i, p.2 = V.int i := by
        have := hk.1
        revert this
        cases p.2 <;> simp [isIntV]
      have hw : isIntV w = true := by
        have : ∀ {ls : List (List Key × V)}, ls.all (fun p => isIntV p.2) = true → valV ls p.1 = some w → isIntV w = true := by
          intro ls
          induction ls with
          | nil => intro _ h; cases h
          | cons q r ih =>
            intro ha h
            rw [List.all_cons, Bool.and_eq_true] at ha
            by_cases e : q.1 = p.1
            · rw [valV_pos e] at h; cases h; exact ha.1
            · rw [valV_neg e] at h; exact ih ha.2 h
        exact this hls hv
      obtain ⟨m, rfl⟩ : ∃ m, w = V.int m := by
        revert hw
        cases w <;> simp [isIntV]
      rw [hi] at h3 ⊢
      obtain ⟨t1, e1⟩ := (show ∃ t, v = .int i t from h3)
      obtain ⟨t2, e2⟩ := (show ∃ t, u = .int m t from ru)
      show SeqAt.EqAt A s v y.2 _
      rw [e1, ey, e2]
      have f := PySem.W.keq_flat (A := A) (s := s) (d := .int i) (e := .int m) (v := .int i t1) (y := .int m t2) (fun _ => .int i t1) (fun _ => .int m t2)
      have e3 : PyData.eqv (.int i) (.int m) = decide ((some (V.int m)) = some (V.int i)) := by
        simp only [PyData.eqv]
        by_cases z : i = m
        · subst z; simp
        · rw [decide_eq_false (fun q => z (by injection q with q; injection q with q; exact q.symm))]
          simp [z]
      rw [e3] at f
      exact f
open Classical in
noncomputable def rEqT (ne : Bool) : R2 := fun x y H Q => ∃ a b ks ls, x = .ref a ∧ y = .ref b ∧ Rd H a (.dT ks) ∧ Rd H b (.dT ls) ∧ ks.all (fun p => isIntV p.2) = true ∧ ls.all (fun p => isIntV p.2) = true ∧ Q (.bl (ne ^^ (decide (ks.length = ls.length) && allHit ls ks))) H
variable {X : Cx} {W : WX}
theorem op_eqT (hu : X.A.units + 1 < cLine) : OpR X (compareOp .Eq) (rEqT false) := by
  intro pins s σ H x y v u Q I rx ry h
  obtain ⟨a, b, ks, ls, rfl, rfl, ea, eb, hk, hl, q⟩ := h
  obtain rfl : v = Value.ref a := rx
  obtain rfl : u = Value.ref b := ry
  obtain ⟨_, ya, va, ra, da⟩ := dt_rd I.hok ea
  obtain ⟨_, yb, vb, rb, db⟩ := dt_rd I.hok eb
  have l1 : ks.length = va.length := ra.length
  have l2 : ls.length = vb.length := rb.length
  refine EqH.eqH (tupleKind_room_in1 hu) ya yb da db (by omega) (fun _ => hits_T rb (let ⟨_, _, _, _, _, _, _, _, hn⟩ := db; hn) hl ra hk) (fin_bl I q ?_)
  rw [l1, l2, Bool.false_xor]
  rfl
theorem op_neT (hu : X.A.units + 1 < cLine) : OpR X (compareOp .NotEq) (rEqT true) := by
  intro pins s σ H x y v u Q I rx ry h
  obtain ⟨a, b, ks, ls, rfl, rfl, ea, eb, hk, hl, q⟩ := h
  obtain rfl : v = Value.ref a := rx
  obtain rfl : u = Value.ref b := ry
  obtain ⟨_, ya, va, ra, da⟩ := dt_rd I.hok ea
  obtain ⟨_, yb, vb, rb, db⟩ := dt_rd I.hok eb
  have l1 : ks.length = va.length := ra.length
  have l2 : ls.length = vb.length := rb.length
  refine EqH.neH (tupleKind_room_in1 hu) ya yb da db (by omega) (fun _ => hits_T rb (let ⟨_, _, _, _, _, _, _, _, hn⟩ := db; hn) hl ra hk) (fin_bl I q ?_)
  rw [l1, l2, Bool.true_xor]
  rfl
open Classical in
/-- .. of data -/
noncomputable def allHitD (ls ks : List (D × D)) : Bool := ks.all fun p => decide (dFind ls p.1 = some p.2)
open Classical in
noncomputable def dEqT (ne : Bool) : D → D → Res D := fun x y => match x, y with
  | .dct true a, .dct true b => if a.all (fun p => isIntD p.2) = true ∧ b.all (fun p => isIntD p.2) = true then .ok (.bl (ne ^^ (decide (a.length = b.length) && allHitD b a))) else .bad
  | _, _ => .bad
theorem ints_V {K : PySem.W.Frag} {G : Hp} : ∀ {kvs : List (D × D)} {ps : List (List Key × V)}, RepV K G kvs (ps.map (·.2)) → kvs.all (fun p => isIntD p.2) = true → ps.all (fun p => isIntV p.2) = true
  | [], [], _, _ => rfl
  | [], _ :: _, r, _ => by simp [RepV] at r
  | _ :: _, [], ⟨_, _, e, _⟩, _ => by simp at e
  | (k, d) :: kvs, (c, v0) :: ps, ⟨v, r', e, r1, r2⟩, h => by
    rw [List.map_cons, List.cons.injEq] at e
    obtain ⟨e1, e2⟩ := e
    subst e1 e2
    rw [List.all_cons, Bool.and_eq_true] at h ⊢
    obtain ⟨i, rfl, e3⟩ := rep_int h.1 r1
    have e3 : v0 = V.int i := e3
    exact ⟨by show isIntV v0 = true; rw [e3]; rfl, ints_V r2 h.2⟩
theorem find_int : ∀ {kvs : List (D × D)} {k d : D}, kvs.all (fun p => isIntD p.2) = true → dFind kvs k = some d → isIntD d = true
  | [], _, _, _, h => by cases h
  | q :: r, k, d, ha, h => by
    rw [List.all_cons, Bool.and_eq_true] at ha
    unfold dFind at h
    rw [List.find?_cons] at h
    split at h
    · cases h
      exact ha.1
    · exact find_int ha.2 h
open Classical in
theorem hit_same {K : PySem.W.Frag} {G : Hp} {kb : List (D × D)} {ls : List (List Key × V)} (g2 : kb.map (·.1) = ls.map (fun p => keyT p.1)) (g3 : RepV K G kb (ls.map (·.2))) (hb : kb.all (fun p => isIntD p.2) = true) :
    ∀ {ka : List (D × D)} {ks : List (List Key × V)}, ka.map (·.1) = ks.map (fun p => keyT p.1) → RepV K G ka (ks.map (·.2)) → ka.all (fun p => isIntD p.2) = true → allHitD kb ka = allHit ls ks
  | [], [], _, _, _ => rfl
  | [], _ :: _, h, _, _ => by simp at h
  | _ :: _, [], h, _, _ => by simp at h
  | (k, d) :: ka, (c, v0) :: ks, h, ⟨v, r', e, r1, r2⟩, hi => by
    rw [List.map_cons, List.cons.injEq] at e
    obtain ⟨e1, e2⟩ := e
    subst e1 e2
    rw [List.map_cons, List.map_cons, List.cons.injEq] at h
    obtain ⟨h1, h2⟩ := h
    have h1 : k = keyT c := h1
    subst h1
    rw [List.all_cons, Bool.and_eq_true] at hi
    have ih := hit_same g2 g3 hb h2 r2 hi.2
    unfold allHitD allHit at ih ⊢
    rw [List.all_cons, List.all_cons, ih]
    congr 1
    obtain ⟨i, e4, e5⟩ := rep_int hi.1 r1
    have e4 : d = .int i := e4
    rcases repv_find (f := keyT) (fun _ _ => keyT_inj) g2 g3 c with ⟨z1, z2⟩ | ⟨d', v', z1, z2, z3⟩
    · dsimp only
      rw [z1, z2, decide_eq_false (by simp), decide_eq_false (by simp)]
    · obtain ⟨j, e6, e7⟩ := rep_int (find_int hb z1) z3
      dsimp only
      have e5 : v0 = V.int i := e5
      subst e4 e5 e6 e7
      rw [z1, z2]
      by_cases q : j = i
      · subst q
        simp
      · have n1 : ¬ some (D.int j) = some (D.int i) := fun z => q (by injection z with z; injection z)
        have n2 : ¬ some (V.int j) = some (V.int i) := fun z => q (by injection z with z; injection z)
        simp [n1, n2]
theorem eqT_of {op : Value → Value → Sem Value} {ne : Bool} (h : OpR X op (rEqT ne)) : OpD X W op (dEqT ne) := by
  refine ⟨_, h, fun σ H G x y dx dy Q sg rx ry p => ?_⟩
  cases dx with
  | dct t ka =>
    cases dy with
    | dct t2 kb =>
      obtain ⟨a, rfl, h⟩ := rx
      obtain ⟨b, rfl, h'⟩ := ry
      rcases h with ⟨rfl, ps, h1, h2, h3⟩ | ⟨rfl, ps, h1, h2, h3⟩
      · exact (show False from p).elim
      · rcases h' with ⟨rfl, ps', g1, g2, g3⟩ | ⟨rfl, ps', g1, g2, g3⟩
        · exact (show False from p).elim
        · dsimp only [dEqT] at p
          by_cases hc : ka.all (fun p => isIntD p.2) = true ∧ kb.all (fun p => isIntD p.2) = true
          · rw [if_pos hc] at p
            have l1 := congrArg List.length h2
            have l2 := congrArg List.length g2
            rw [List.length_map, List.length_map] at l1 l2
            rw [hit_same g2 g3 hc.2 h2 h3 hc.1, l1, l2] at p
            exact ⟨a, b, ps, ps', rfl, rfl, h1, g1, ints_V h3 hc.1, ints_V g3 hc.2, PostG.val (d := .bl _) p sg rfl⟩
          · rw [if_neg hc] at p; exact p.elim
    | _ => cases t <;> exact (show False from p).elim
  | _ => cases dy <;> exact (show False from p).elim
theorem od_eqT (hu : X.A.units + 1 < cLine) : OpD X W (compareOp .Eq) (dEqT false) := eqT_of (op_eqT hu)
theorem od_neT (hu : X.A.units + 1 < cLine) : OpD X W (compareOp .NotEq) (dEqT true) := eqT_of (op_neT hu)
end
end DL

/-! isinstance(e, (A, B, ..)), e the error that a handler names -/
namespace DL
open PySem PySem.Spec PyProof.Rows L2
/-- isinstance(e, (c1, c2, ..)) -/
def rIsET (K : PySem.W.Frag) (D a : Addr) : List V → Hp → VK → Prop := fun xs H Q => ∃ (tp : Addr) (cs : List V) (us : List Value) (b : Bool), xs = [.ref a, .ref tp] ∧ H tp = some (.tup cs) ∧ Paired ClsV cs us ∧ PySem.W.kitAny K (.ref D) us = some b ∧ Q (.bl b) H
theorem call_isET {X : Cx} {a D : Addr} {oe : Obj} {pn : List (Addr × Obj)} (C : ExcC X.K D) (hz : Zc (.ref D) none oe) (hf : ∃ vs, oe.data = .fields vs) : CallR (X.suite a ((a, oe) :: pn)) (.builtin "isinstance") (rIsET X.K D a) := by
  intro pins s σ H xs us Q I r h
  obtain ⟨tp, cs, ws, b, rfl, hT, k, e, q⟩ := h
  obtain ⟨u1, u2, rfl, r1, r2⟩ := vals2 r
  cases (show u1 = Value.ref a from r1)
  cases (show u2 = Value.ref tp from r2)
  obtain ⟨hget, _⟩ := I.pin (a, oe) (List.mem_append.mpr (.inl List.mem_cons_self))
  obtain ⟨vs, hv⟩ := hf
  have J : PySem.W.InstAt s.heap a oe D none := by
    obtain ⟨oc, od, oda, osl⟩ := oe
    obtain ⟨h1, h2⟩ := hz
    dsimp only at h1 h2 hv
    subst h1 h2 hv
    exact ⟨hget, rfl, rfl, trivial⟩
  obtain ⟨_, its, rv, o, h1, h2, n, h3⟩ := (show ObjOk X.prog X.w H s.heap tp (.tup cs) from I.hok tp _ hT)
  have e3 := ClsV.all k rv
  subst e3
  obtain ⟨oc, od, dt, sl⟩ := o
  simp only at h2 h3
  subst h2 h3
  exact PySem.W.kia_tup (PySem.W.handS_kitx_exc C.hg C.hk C.hs C.hd C.ha C.hn C.ht C.hm) I.kIn J h1 e (fun z => nomatch z) fun tk => ⟨.bl b, H, I.kept (t' := tk) fun _ _ z => z, rfl, q⟩
def anyO : List (Option Bool) → Option Bool
  | [] => some false
  | some true :: _ => some true
  | some false :: r => anyO r
  | none :: _ => none
/-- the tables of several classes, at the class k -/
inductive Tabs (K : PySem.W.Frag) (mg : Str → Option Value) (k : String) : List V → List Value → List (Option Bool) → Prop where
  | nil : Tabs K mg k [] [] []
  | cons {c : Addr} {t : String → Option Bool} {vs : List V} {us : List Value} {os : List (Option Bool)} (h : IsTab K mg (.ref c) t) (r : Tabs K mg k vs us os) : Tabs K mg k (.ref c :: vs) (.ref c :: us) (t k :: os)
theorem Tabs.cls {K : PySem.W.Frag} {mg : Str → Option Value} {k : String} {vs : List V} {us : List Value} {os : List (Option Bool)} (h : Tabs K mg k vs us os) : Paired ClsV vs us := by
  induction h with
  | nil => exact .nil
  | cons _ _ ih => exact .cons (.own _) ih
theorem Tabs.any {K : PySem.W.Frag} {mg : Str → Option Value} {k : String} {C : Addr} (hm : mg (Str.ofString k) = some (.ref C)) {vs : List V} {us : List Value} {os : List (Option Bool)} (h : Tabs K mg k vs us os) : ∀ {b : Bool}, anyO os = some b → PySem.W.kitAny K (.ref C) us = some b := by
  induction h with
  | nil => intro b h; cases h; exact kitAny_nil
  | @cons c t vs us os h r ih =>
    intro b hb
    cases ht : t k with
    | none => rw [ht] at hb; cases hb
    | some z =>
      obtain ⟨C', e, _, h3⟩ := h k z _ ht hm
      cases e
      rw [ht] at hb
      cases z with
      | true => cases hb; exact kitAny_cons h3 (fun z => by cases z) fun _ => rfl
      | false => exact kitAny_cons h3 (fun _ => ih hb) fun z => by cases z
def tCs : List V → TA
  | [] => tNil
  | v :: r => tCons (tC v) (tCs r)
theorem tCs_run {σ : L2.St} {H : Hp} : ∀ {vs : List V} {Q : List V → Hp → Prop}, Q vs H → tCs vs σ H Q
  | [], _, h => h
  | _ :: r, _, h => tCs_run (vs := r) h
section
variable {X : Cx} {W : WX} {A : Nat → Prop} {pos p p1 p2 : Pos}
theorem de_isET {i : Nat} {x n : Str} {k : String} {ad : Addr} {oe : Obj} {cls : Value} {c0 : Addr} {t0 : String → Option Bool} {vs : List V} {us : List Value} {os : List (Option Bool)} {es : List Expr} {kt} {pn : List (Addr × Obj)} {p3 : Pos} (ht0 : IsTab X.K X.mg (.ref c0) t0) (hts : Tabs X.K X.mg k vs us os) (hm : X.mg (Str.ofString k) = some cls) (hz : Zc cls none oe) (hf : ∃ vs, oe.data = .fields vs)
    (hN : X.N[i]? = some n) (hv : Vis X.env.scope n) (hg : Gl X x) (hmx : X.mg x = none) (hvx : bootBuiltins x = some (.builtin "isinstance")) (hl : vs.length < 1000) (hy : PA (X.suite ad ((ad, oe) :: pn)) es (tCons (tC (.ref c0)) (tCs vs)))
    (hnx : x ≠ "__name__" := by decide) (hd : (n == ("__debug__" : Str)) = false := by decide) (hcd : (n == ("__classdict__" : Str)) = false := by decide) (hdb : (x == ("__debug__" : Str)) = false := by decide)
    (he : starEach (.Name n p2 :: [.Tuple es kt p3]) X.env = (false, eval (.Name n p2) X.env) :: starEach [.Tuple es kt p3] X.env := by rfl) (he2 : starEach (.Tuple es kt p3 :: []) X.env = (false, eval (.Tuple es kt p3) X.env) :: starEach [] X.env := by rfl) (hpl : (backTo pos (starEach [.Tuple es kt p3] X.env)).any (·.1) = false := by rfl) :
    DE (X.suite ad ((ad, oe) :: pn)) W A (.Call (.Name x p) [.Name n p2, .Tuple es kt p3] [] pos) (eIsE i ad (anyO (t0 k :: os))) := by
  cases hk : anyO (t0 k :: os) with
  | none => exact ⟨fun pins s σ H Q I ⟨e, G, E, q⟩ => by
      unfold eIsE at q
      revert q
      split
      · split
        · exact fun q => q.elim
        · exact fun q => q.elim
      · exact fun q => q.elim⟩
  | some b =>
    obtain ⟨z, hz0⟩ : ∃ z, t0 k = some z := by
      cases h : t0 k with
      | none => rw [h] at hk; cases hk
      | some z => exact ⟨z, rfl⟩
    obtain ⟨C, hC, hE, _⟩ := ht0 k z cls hz0 hm
    subst hC
    have all : Tabs X.K X.mg k (.ref c0 :: vs) (.ref c0 :: us) (t0 k :: os) := .cons ht0 hts
    have hA := all.any hm hk
    refine (pe_callB (X := X.suite ad ((ad, oe) :: pn)) (call_isET hE hz hf) hg hmx hvx (pa_cons (de_vs (W := W) (A := A) (i := i) hN hv hd hcd) (pa_cons (pe_tup hy) pa_nil he2) he) hnx hdb he hpl).imp fun σ H Q ⟨e, G, E, q⟩ => ?_
    refine ⟨e, G, E, ?_⟩
    unfold eIsE at q
    unfold eVarS
    revert q
    cases hi : e[i]? with
    | none => exact fun q => q.elim
    | some sl =>
      cases sl with
      | none => exact fun q => q.elim
      | some z =>
        obtain ⟨d, o⟩ := z
        cases o with
        | true => intro q; cases d <;> try exact q.elim
                  rename_i u; cases u <;> exact q.elim
        | false =>
          cases d with
          | obj u =>
            cases u with
            | ref a' =>
              intro q
              dsimp only at q ⊢
              by_cases ha : a' = ad
              · rw [if_pos ha] at q
                subst ha
                intro H' G' x1 v1 r1
                cases (show v1 = .ref a' from r1)
                show tCs (.ref c0 :: vs) σ H' (fun xs H1 => xs.length ≤ sizeLine ∧ ∀ p, H1 p = none → rIsET X.K C a' [V.ref a', V.ref p] (upd H1 p (.tup xs)) Q)
                refine tCs_run (vs := .ref c0 :: vs) ?_
                refine ⟨by rw [PySem.sizeLine_eq, List.length_cons]; omega, fun tp hp => ?_⟩
                exact ⟨tp, _, _, b, rfl, upd_same, all.cls, hA, (q.ext (x1.trans (Ext.laid x1.gh hp))).val (Ext.laid x1.gh hp).gh rfl⟩
              · rw [if_neg ha] at q; exact q.elim
            | _ => exact fun q => q.elim
          | _ => exact fun q => q.elim
end
end DL

namespace DL
open PySem PySem.Spec PyProof.Rows L2
open PySem.Builtin.Int (intBits)

/-- a bound that range takes -/
def Rg (n : Int) : Prop := -(2 ^ 62) ≤ n ∧ n < 2 ^ 62
theorem Rg.of {n : Int} (h : -1000000000 ≤ n) (k : n ≤ 1000000000) : Rg n := ⟨by omega, by omega⟩
open Classical in
noncomputable def range1D : D → Res (List D) := fun d => match d with
  | .int n => if Rg n then .ok (rangeD 0 n) else .bad
  | _ => .bad
open Classical in
noncomputable def range2D : D → D → Res (List D) := fun d d2 => match d, d2 with
  | .int m, .int n => if Rg m ∧ Rg n then .ok (rangeD m n) else .bad
  | _, _ => .bad
@[simp] theorem range1D_int (n : Int) (h : Rg n) : range1D (.int n) = .ok (rangeD 0 n) := if_pos h
@[simp] theorem range2D_int (m n : Int) (h : Rg m) (k : Rg n) : range2D (.int m) (.int n) = .ok (rangeD m n) := if_pos ⟨h, k⟩
theorem iRange1_is (f : DL.Env → Res D) (e : DL.Env) : iRange1 f e = (f e).bind range1D := by
  unfold iRange1
  congr 1
  funext d
  cases d with
  | int n =>
    dsimp only [range1D]
    by_cases h : Rg n
    · rw [if_pos (show -(2 ^ 62) ≤ n ∧ n < 2 ^ 62 from h), if_pos h]
    · rw [if_neg (show ¬ (-(2 ^ 62) ≤ n ∧ n < 2 ^ 62) from h), if_neg h]
  | _ => rfl
theorem iRange2_is (f g : DL.Env → Res D) (e : DL.Env) : iRange2 f g e = (f e).bind fun d => (g e).bind fun d2 => range2D d d2 := by
  unfold iRange2
  congr 1
  funext d
  congr 1
  funext d2
  cases d with
  | int m =>
    cases d2 with
    | int n =>
      dsimp only [range2D]
      by_cases h : Rg m ∧ Rg n
      · rw [if_pos h, if_pos ⟨h.1.1, h.1.2, h.2.1, h.2.2⟩]
      · rw [if_neg h, if_neg fun z => h ⟨⟨z.1, z.2.1⟩, z.2.2.1, z.2.2.2⟩]
    | _ => rfl
  | _ => rfl
/-! ### a body's reckoning, step by step -/
section
variable (al : List Nat) (i : Nat) (e : DL.Env) (f fa fb fc : DL.Env → Res D) (ft fu : DL.Env → Res Bool) (g h : DL.Env → Out) (fs : DL.Env → Res (List D)) (d : D) (ds : List D) (op : D → D → Res D) (op1 : D → Res D)
@[simp] theorem eVarS_app : eVarS i e = (match e[i]? with | some (some (d, false)) => .ok d | _ => .bad) := Eq.trans rfl rfl
@[simp] theorem eVar_app : eVar i e = (match e[i]? with | some (some (d, _)) => .ok d | _ => .bad) := Eq.trans rfl rfl
@[simp] theorem eC_app : eC d e = .ok d := Eq.trans rfl rfl
@[simp] theorem eOp_app : eOp op fa fb e = (fa e).bind fun x => (fb e).bind fun y => op x y := Eq.trans rfl rfl
@[simp] theorem e1_app : e1 op1 f e = (f e).bind op1 := Eq.trans rfl rfl
@[simp] theorem eNeg_app : eNeg f e = (f e).bind fun x => (match x with | .int i => .ok (.int (-i)) | _ => .bad) := Eq.trans rfl rfl
@[simp] theorem eTup_app : eTup fs e = (fs e).bind fun ds => .ok (.tup ds) := Eq.trans rfl rfl
@[simp] theorem eLst_app : eLst fs e = (fs e).bind fun ds => .ok (.lst ds) := Eq.trans rfl rfl
@[simp] theorem aNil_app : aNil e = .ok [] := Eq.trans rfl rfl
@[simp] theorem aCons_app : aCons f fs e = (f e).bind fun d => (fs e).bind fun ds => .ok (d :: ds) := Eq.trans rfl rfl
@[simp] theorem eCall_app (F : List D → Res D) : eCall F fs e = (fs e).bind F := Eq.trans rfl rfl
@[simp] theorem eAnd_app : eAnd fa fb e = (fa e).bind fun x => (D.asB x).bind fun b => if b = true then fb e else .ok (.bl false) := Eq.trans rfl rfl
@[simp] theorem eOr_app : eOr fa fb e = (fa e).bind fun x => (D.asB x).bind fun b => if b = true then .ok (.bl true) else fb e := Eq.trans rfl rfl
@[simp] theorem eNot_app : eNot f e = (f e).bind fun x => (D.asB x).bind fun b => .ok (.bl (!b)) := Eq.trans rfl rfl
@[simp] theorem eIf_app : eIf ft fa fb e = (ft e).bind fun b => if b = true then fa e else fb e := Eq.trans rfl rfl
@[simp] theorem bTest_app : bTest op fa fb e = (fa e).bind fun x => (fb e).bind fun y => (op x y).bind D.asB := Eq.trans rfl rfl
@[simp] theorem bTruth_app : bTruth f e = (f e).bind D.truth := Eq.trans rfl rfl
@[simp] theorem bAnd_app : bAnd ft fu e = (ft e).bind fun b => if b = true then fu e else .ok false := Eq.trans rfl rfl
@[simp] theorem bOr_app : bOr ft fu e = (ft e).bind fun b => if b = true then .ok true else fu e := Eq.trans rfl rfl
@[simp] theorem bNot_app : bNot ft e = (ft e).bind fun b => .ok (!b) := Eq.trans rfl rfl
@[simp] theorem bVal_app : bVal f e = (f e).bind D.asB := Eq.trans rfl rfl
@[simp] theorem oNone_app : oNone e = .ok none := Eq.trans rfl rfl
@[simp] theorem oSome_app : oSome f e = (f e).bind fun d => (match d with | .int i => .ok (some i) | _ => .bad) := Eq.trans rfl rfl
@[simp] theorem eCut_app (fl fh : DL.Env → Res (Option Int)) : eCut f fl fh e = (f e).bind fun d => (fl e).bind fun lo => (fh e).bind fun hi => dCut lo hi d := Eq.trans rfl rfl
@[simp] theorem iSeq_app : iSeq f e = (f e).bind fun d => (match d with | .lst xs => .ok xs | .tup xs => .ok xs | .con xs => .ok xs | _ => .bad) := Eq.trans rfl rfl
@[simp] theorem iRange1_app : iRange1 f e = (f e).bind range1D := iRange1_is f e
@[simp] theorem iRange2_app : iRange2 fa fb e = (fa e).bind fun d => (fb e).bind fun d2 => range2D d d2 := iRange2_is fa fb e
@[simp] theorem iRange3_app : iRange3 fa fb fc e = (fa e).bind fun x => (fb e).bind fun y => (fc e).bind fun z => r3D x y z := Eq.trans rfl rfl
@[simp] theorem r3D_int (i j c : Int) : r3D (.int i) (.int j) (.int c) = rg3 i j c := Eq.trans rfl rfl
@[simp] theorem sTry_app (hh : String → Option Bool) : sTry hh g h e = (match g e with | .ex c fs' e' => (match hh c with | some true => noEx (h e') | some false => .ex c fs' e' | none => .bad) | r => r) := Eq.trans rfl rfl
@[simp] theorem sTryAs_app (hh : String → Option Bool) (fs : Addr → String → DL.Env → Out) : sTryAs i hh g fs e = (match g e with | .ex c fs' e' => (match hh c with | some true => if fs' = [] then unif (fun a => clrN i (fs a c (e'.set i (some (.obj (.ref a), false))))) else .bad | some false => .ex c fs' e' | none => .bad) | r => r) := Eq.trans rfl rfl
@[simp] theorem clrN_nx : clrN i (.nx e) = .nx (e.set i none) := Eq.trans rfl rfl
@[simp] theorem clrN_rt : clrN i (.rt d) = .rt d := Eq.trans rfl rfl
@[simp] theorem clrN_ro : clrN i (.ro d) = .ro d := Eq.trans rfl rfl
@[simp] theorem unif_const (r : Out) : (unif fun _ => r) = r := unif_of fun _ => rfl
@[simp] theorem eIsE_app (a : Addr) (o : Option Bool) : eIsE i a o e = (match e[i]? with | some (some (.obj (.ref a'), false)) => if a' = a then (match o with | some b => .ok (.bl b) | none => .bad) else .bad | _ => .bad) := Eq.trans rfl rfl
@[simp] theorem dStr_bl (b : Bool) : dStr (.bl b) = .ok (.str (if b = true then "True" else "False")) := Eq.trans rfl rfl
@[simp] theorem noEx_nx : noEx (.nx e) = .nx e := Eq.trans rfl rfl
@[simp] theorem noEx_rt : noEx (.rt d) = .rt d := Eq.trans rfl rfl
@[simp] theorem noEx_ro : noEx (.ro d) = .ro d := Eq.trans rfl rfl
@[simp] theorem sRetO_app : sRetO i e = (match e[i]? with | some (some (d, true)) => .ro d | some (some (d, false)) => .rt d | _ => .bad) := Eq.trans rfl rfl
@[simp] theorem sRetF_app : sRetF al f e = (match f e with | .ok d => .ro d | .exc c fs => .ex c fs (fz al e) | .bad => .bad) := by unfold sRetF sE; cases f e <;> rfl
@[simp] theorem sSkip_app : sSkip e = .nx e := Eq.trans rfl rfl
@[simp] theorem sBreak_app : sBreak e = .bk e := Eq.trans rfl rfl
@[simp] theorem sCont_app : sCont e = .ct e := Eq.trans rfl rfl
@[simp] theorem sRetN_app : sRetN e = .rt .non := Eq.trans rfl rfl
@[simp] theorem sRaise_app (c : String) : sRaise c e = .ex c [] e := Eq.trans rfl rfl
@[simp] theorem sSeq_app : sSeq g h e = (match g e with | .nx e' => h e' | r => r) := Eq.trans rfl rfl
@[simp] theorem sIf_app : sIf al ft g h e = (match ft e with | .ok b => if b = true then g (fz al e) else h (fz al e) | .exc c fs => .ex c fs (fz al e) | .bad => .bad) := by unfold sIf sE; cases ft e <;> rfl
@[simp] theorem sRet_app : sRet al f e = (match f e with | .ok d => .rt d | .exc c fs => .ex c fs (fz al e) | .bad => .bad) := by unfold sRet sE; cases f e <;> rfl
@[simp] theorem sDrop_app : sDrop al f e = (match f e with | .ok d => .nx (fz al e) | .exc c fs => .ex c fs (fz al e) | .bad => .bad) := by unfold sDrop sE; cases f e <;> rfl
@[simp] theorem sSet_app : sSet al i f e = (match f e with | .ok d => .nx ((fz al e).set i (some (d, false))) | .exc c fs => .ex c fs (fz al e) | .bad => .bad) := by unfold sSet sE; cases f e <;> rfl
@[simp] theorem sSetF_app : sSetF al i f e = (match f e with | .ok d => .nx ((fz al e).set i (some (d, true))) | .exc c fs => .ex c fs (fz al e) | .bad => .bad) := by unfold sSetF sE; cases f e <;> rfl
@[simp] theorem sAsg_app (p : Pat) : sAsg al p f e = (match f e with | .ok d => (match p.bind d (fz al e) with | .ok e' => .nx e' | _ => .bad) | .exc c fs => .ex c fs (fz al e) | .bad => .bad) := by unfold sAsg sE; cases f e <;> rfl
@[simp] theorem sPar_app (j : Nat) : sPar al i j fs e = (match fs e with | .ok ds => (match ds with | [x, y] => .nx (((fz al e).set i (some (x, false))).set j (some (y, false))) | _ => .bad) | .exc c fs => .ex c fs (fz al e) | .bad => .bad) := by unfold sPar sE; cases fs e <;> rfl
@[simp] theorem sFor_app (p : Pat) : sFor al p fs g e = (match fs e with | .ok ds => turns p g ds (fz al e) | .exc c fs => .ex c fs (fz al e) | .bad => .bad) := by unfold sFor sE; cases fs e <;> rfl
@[simp] theorem fz_cons (r : List Nat) : fz (i :: r) e = fz r (unown i e) := Eq.trans rfl rfl
@[simp] theorem unown_app : unown i e = (match e[i]? with | some (some (d, true)) => e.set i (some (d, false)) | _ => e) := Eq.trans rfl rfl
@[simp] theorem bindnm_app : Pat.bind (.nm i) d e = .ok (e.set i (some (d, false))) := Eq.trans rfl rfl
@[simp] theorem bindtp_app (ps : List Pat) : Pat.bind (.tp ps) (.tup ds) e = Pat.binds ps ds e := Eq.trans rfl rfl
@[simp] theorem binds_nil : Pat.binds [] [] e = .ok e := Eq.trans rfl rfl
@[simp] theorem binds_cons (p : Pat) (ps : List Pat) : Pat.binds (p :: ps) (d :: ds) e = (Pat.bind p d e).bind fun e' => Pat.binds ps ds e' := Eq.trans rfl rfl
@[simp] theorem asB_bl (b : Bool) : D.asB (.bl b) = .ok b := Eq.trans rfl rfl
@[simp] theorem dLt_int (i j : Int) : dLt (.int i) (.int j) = .ok (.bl (decide (i < j))) := Eq.trans rfl rfl
@[simp] theorem dLe_int (i j : Int) : dLe (.int i) (.int j) = .ok (.bl (decide (i ≤ j))) := Eq.trans rfl rfl
@[simp] theorem dGt_int (i j : Int) : dGt (.int i) (.int j) = .ok (.bl (decide (j < i))) := Eq.trans rfl rfl
@[simp] theorem dGe_int (i j : Int) : dGe (.int i) (.int j) = .ok (.bl (decide (j ≤ i))) := Eq.trans rfl rfl
@[simp] theorem dAdd_int (i j : Int) : dAdd (.int i) (.int j) = .ok (.int (i + j)) := Eq.trans rfl rfl
@[simp] theorem dSub_int (i j : Int) : dSub (.int i) (.int j) = .ok (.int (i - j)) := Eq.trans rfl rfl
@[simp] theorem dMod_int (i j : Int) : dMod (.int i) (.int j) = (if j ≠ 0 then .ok (.int (i.fmod j)) else .bad) := Eq.trans rfl rfl
@[simp] theorem dAbs_int (i : Int) : dAbs (.int i) = .ok (.int (i.natAbs : Int)) := by
  show Res.ok (D.int (if i < 0 then -i else i)) = _
  congr 2
  split <;> omega
@[simp] theorem dLen_lst : dLen (.lst ds) = .ok (.int ds.length) := Eq.trans rfl rfl
@[simp] theorem dLen_tup : dLen (.tup ds) = .ok (.int ds.length) := Eq.trans rfl rfl
@[simp] theorem dLen_con : dLen (.con ds) = .ok (.int ds.length) := Eq.trans rfl rfl
@[simp] theorem dLen_dct (t : Bool) (kvs : List (D × D)) : dLen (.dct t kvs) = .ok (.int kvs.length) := Eq.trans rfl rfl
@[simp] theorem isInt_int (i : Int) : isInt (.int i) = .ok (.bl true) := Eq.trans rfl rfl
@[simp] theorem isBool_int (i : Int) : isBool (.int i) = .ok (.bl false) := Eq.trans rfl rfl
@[simp] theorem isTup_tup : isTup (.tup ds) = .ok (.bl true) := Eq.trans rfl rfl
@[simp] theorem dTuple_lst : dTuple (.lst ds) = .ok (.tup ds) := Eq.trans rfl rfl
@[simp] theorem dTuple_tup : dTuple (.tup ds) = .ok (.tup ds) := Eq.trans rfl rfl
@[simp] theorem dList_lst : dList (.lst ds) = .ok (.lst ds) := Eq.trans rfl rfl
@[simp] theorem dList_tup : dList (.tup ds) = .ok (.lst ds) := Eq.trans rfl rfl
@[simp] theorem dMax_int (i j : Int) : dMax (.int i) (.int j) = .ok (.int (if i < j then j else i)) := Eq.trans rfl rfl
@[simp] theorem dMin_int (i j : Int) : dMin (.int i) (.int j) = .ok (.int (if j < i then j else i)) := Eq.trans rfl rfl
@[simp] theorem sMut_app (gm : List D → List D → Option (List D)) : sMut al i gm fs e = ownL i (fz al e) (fun xs => sE al fs (fun ds e' => match gm xs ds with
    | some ys => .nx (e'.set i (some (.lst ys, true)))
    | none => .bad) e) := Eq.trans rfl rfl
end
theorem gAppend_one {xs : List D} {d : D} (h : xs.length < sizeLine) : gAppend xs [d] = some (xs ++ [d]) := if_pos h
@[simp] theorem ownL_app (i : Nat) (e : DL.Env) (k : List D → Out) : ownL i e k = (match e[i]? with | some (some (.lst xs, true)) => k xs | _ => .bad) := Eq.trans rfl rfl
@[simp] theorem sE_app {α : Type} (al : List Nat) (e : DL.Env) (fa : DL.Env → Res α) (k : α → DL.Env → Out) : sE al fa k e = (match fa e with | .ok a => k a (fz al e) | .exc c fs => .ex c fs (fz al e) | .bad => .bad) := Eq.trans rfl rfl
theorem while_eq (al : List Nat) (ft : DL.Env → Res Bool) (fb : DL.Env → Out) (e : DL.Env) : sWhile al ft fb e = (match ft e with
    | .ok b => if b = true then (match fb (fz al e) with
      | .nx e2 => sWhile al ft fb e2
      | .ct e2 => sWhile al ft fb e2
      | .bk e2 => .nx e2
      | .rt d => .rt d
      | .ro d => .ro d
      | .rm d e2 => .rm d e2
      | .ex c fs e2 => .ex c fs e2
      | .bad => .bad) else .nx (fz al e)
    | .exc c fs => .ex c fs (fz al e)
    | .bad => .bad) := by
  rw [sWhile_eq]
  cases ft e with
  | ok b => cases b <;> rfl
  | exc c fs => rfl
  | bad => rfl
/-! equality -/
theorem D.pl_int (i : Int) (n : Nat) : (D.int i).pl n = true := rfl
@[simp] theorem dEq_int (i j : Int) : dEq (.int i) (.int j) = .ok (.bl (decide (i = j))) := by
  simp [dEq, D.pl, D.beq, D.py, PyData.eqv]
  exact Bool.eq_iff_iff.mpr (by simp)
@[simp] theorem dNe_int (i j : Int) : dNe (.int i) (.int j) = .ok (.bl (!decide (i = j))) := by
  simp [dNe, D.pl, D.beq, D.py, PyData.eqv]
  exact Bool.eq_iff_iff.mpr (by simp)
@[simp] theorem dAdd_lst (a b : List D) (h : a.length + b.length ≤ sizeLine) : dAdd (.lst a) (.lst b) = .ok (.lst (a ++ b)) := if_pos h
@[simp] theorem dIx_tup0 (a : D) (r : List D) : dIx (.tup (a :: r)) (.int 0) = .ok a := by simp [dIx, atI, ixN]
@[simp] theorem dIx_tup1 (a b : D) (r : List D) : dIx (.tup (a :: b :: r)) (.int 1) = .ok b := by
  have : (1 : Int) < r.length + 1 + 1 := by omega
  simp [dIx, atI, ixN, this]
theorem dIx_lst {ds : List D} {i : Nat} {d : D} (h : ds[i]? = some d) : dIx (.lst ds) (.int i) = .ok d := by
  have : i < ds.length := (List.getElem?_eq_some_iff.mp h).1
  obtain ⟨w, rfl⟩ := List.getElem?_eq_some_iff.mp h
  simp [dIx, atI, ixN, w]
theorem dIx_tup {ds : List D} {i : Nat} {d : D} (h : ds[i]? = some d) : dIx (.tup ds) (.int i) = .ok d := by
  have : i < ds.length := (List.getElem?_eq_some_iff.mp h).1
  obtain ⟨w, rfl⟩ := List.getElem?_eq_some_iff.mp h
  simp [dIx, atI, ixN, w]
theorem ixN_of {n : Nat} {i : Int} (h : -(n : Int) ≤ i) (k : i < n) : ∃ j : Nat, ixN n i = some j ∧ j < n := by
  unfold ixN
  by_cases c : 0 ≤ i
  · exact ⟨i.toNat, by rw [if_pos c, if_pos k], by omega⟩
  · exact ⟨(i + n).toNat, by rw [if_neg c, if_pos h], by omega⟩
/-- some number stands at every place, told from either end -/
theorem dIx_ints {ns : List Int} {i : Int} (h : -(ns.length : Int) ≤ i) (k : i < ns.length) : ∃ z, z ∈ ns ∧ dIx (.lst (ns.map D.int)) (.int i) = .ok (.int z) := by
  obtain ⟨j, a, b⟩ := ixN_of h k
  refine ⟨ns[j], List.getElem_mem _, ?_⟩
  simp [dIx, atI, a, b]
mutual
theorem eqv_self : ∀ (d : D) (n : Nat), d.pl n = true → PyData.eqv d.py d.py = true
  | .non, _, _ => rfl
  | .bl b, _, _ => by simp [D.py, PyData.eqv]
  | .int i, _, _ => by simp [D.py, PyData.eqv]
  | .str x, _, _ => by simp [D.py, PyData.eqv]
  | .obj _, _, h => by simp [D.pl] at h
  | .dct _ _, _, h => by simp [D.pl] at h
  | .con xs, 0, h => by simp [D.pl] at h
  | .con xs, n + 1, h => by
    simp [D.py, PyData.eqv]
    exact eqvs_self xs n (by simpa [D.pl] using h)
  | .tup xs, 0, h => by simp [D.pl] at h
  | .lst xs, 0, h => by simp [D.pl] at h
  | .tup xs, n + 1, h => by
    simp [D.py, PyData.eqv]
    exact eqvs_self xs n (by simpa [D.pl] using h)
  | .lst xs, n + 1, h => by
    simp [D.py, PyData.eqv]
    exact eqvs_self xs n (by simpa [D.pl] using h)
theorem eqvs_self : ∀ (ds : List D) (n : Nat), D.pls ds n = true → PyData.eqvAll (D.pys ds) (D.pys ds) = true
  | [], _, _ => rfl
  | d :: r, n, h => by
    have h' : d.pl n = true ∧ D.pls r n = true := by simpa [D.pls] using h
    simp [D.pys, PyData.eqvAll]
    exact ⟨eqv_self d n h'.1, eqvs_self r n h'.2⟩
end
theorem dEq_self {d : D} (h : d.pl 60 = true) : dEq d d = .ok (.bl true) := by
  cases d with
  | str x => simp [dEq]
  | _ => simp only [dEq]; rw [if_pos ⟨h, h⟩, D.beq, eqv_self _ 60 h]
theorem dNe_self {d : D} (h : d.pl 60 = true) : dNe d d = .ok (.bl false) := by
  cases d with
  | str x => simp [dNe]
  | _ => simp only [dNe]; rw [if_pos ⟨h, h⟩, D.beq, eqv_self _ 60 h]; rfl
theorem pls_all {n : Nat} : ∀ {ds : List D}, (∀ d ∈ ds, d.pl n = true) → D.pls ds n = true
  | [], _ => rfl
  | d :: r, h => by
    rw [D.pls, h d List.mem_cons_self, pls_all fun x hx => h x (List.mem_cons_of_mem _ hx)]
    rfl
/-! ### sizes -/
/-- an integer of at most so many bits -/
def Sm (n : Nat) (i : Int) : Prop := i.natAbs < 2 ^ n
theorem Sm.mono {n m : Nat} {i : Int} (h : Sm n i) (k : n ≤ m) : Sm m i := Nat.lt_of_lt_of_le h (Nat.pow_le_pow_right (by decide) k)
theorem Sm.bits {n : Nat} {i : Int} : Sm n i ↔ intBits i ≤ n := by
  unfold Sm intBits
  by_cases h : i = 0
  · subst h; simp; exact Nat.two_pow_pos n
  · have h' : (i == 0) = false := by simpa using h
    rw [h']
    have : i.natAbs ≠ 0 := by omega
    rw [← Nat.log2_lt this]
    exact Iff.rfl
theorem Sm.add {n : Nat} {i j : Int} (h : Sm n i) (k : Sm n j) : Sm (n + 1) (i + j) := by
  unfold Sm at *
  rw [Nat.pow_succ]
  omega
theorem Sm.neg {n : Nat} {i : Int} (h : Sm n i) : Sm n (-i) := by
  unfold Sm at *; omega
theorem Sm.mul {n m : Nat} {i j : Int} (h : Sm n i) (k : Sm m j) : Sm (n + m) (i * j) := by
  unfold Sm at *
  rw [Int.natAbs_mul, Nat.pow_add]
  exact Nat.mul_lt_mul'' h k
theorem Sm.pow {n : Nat} {i : Int} (h : Sm n i) : ∀ k, Sm (n * k + 1) (i ^ k)
  | 0 => by show (i ^ 0).natAbs < 2 ^ (0 + 1); simp
  | k + 1 => by
    rw [Int.pow_succ]
    exact ((Sm.pow h k).mul h).mono (by rw [Nat.mul_succ]; omega)
theorem Sm.le {n : Nat} {i j : Int} (h : Sm n i) (k : j.natAbs ≤ i.natAbs) : Sm n j := Nat.lt_of_le_of_lt k h
theorem Sm.lg {n : Nat} {i : Int} (h : Sm n i) (k : n ≤ 8999) : i.natAbs.log2 < 9000 := by
  by_cases z : i.natAbs = 0
  · rw [z]; decide
  · rw [Nat.log2_lt z]
    exact Nat.lt_of_lt_of_le h (Nat.pow_le_pow_right (by decide) (by omega))
theorem Sm.two {n m : Nat} {i j : Int} (h : Sm n i) (k : Sm m j) (l : n + m ≤ big) : intBits i + intBits j ≤ big := Nat.le_trans (Nat.add_le_add (Sm.bits.mp h) (Sm.bits.mp k)) l
theorem dMul_int {n m : Nat} {i j : Int} (h : Sm n i) (k : Sm m j) (l : n + m ≤ big) : dMul (.int i) (.int j) = .ok (.int (i * j)) := if_pos (h.two k l)
theorem dDiv_int {i j : Int} (h : j ≠ 0) (k : j.natAbs.log2 < 9000) : dDiv (.int i) (.int j) = .ok (.int (i.fdiv j)) := if_pos ⟨h, k⟩
@[simp] theorem dDiv_lit (i j : Int) (h : 0 < j) (k : j < 18446744073709551616) : dDiv (.int i) (.int j) = .ok (.int (i / j)) := by
  rw [dDiv_int (by omega) (Sm.lg (n := 64) (by unfold Sm; omega) (by decide)), Int.fdiv_eq_ediv_of_nonneg _ (by omega)]
theorem dDiv_pos {i j : Int} {n : Nat} (h : 0 < j) (k : Sm n j) (l : n ≤ 8999) : dDiv (.int i) (.int j) = .ok (.int (i / j)) := by
  rw [dDiv_int (by omega) (k.lg l), Int.fdiv_eq_ediv_of_nonneg _ (by omega)]
@[simp high] theorem dMod_lit (i j : Int) (h : 0 < j) : dMod (.int i) (.int j) = .ok (.int (i % j)) := by
  rw [dMod_int, if_pos (by omega), Int.fmod_eq_emod_of_nonneg _ (by omega)]
theorem dPow_of {i j : Int} (h : 0 ≤ j ∧ (intBits i : Int) * j ≤ 2 ^ 27) : dPow (.int i) (.int j) = .ok (.int (i ^ j.toNat)) := if_pos h
@[simp] theorem pow_10_60 : dPow (.int 10) (.int 60) = .ok (.int (10 ^ 60)) := dPow_of (by decide +kernel)
@[simp] theorem pow_10_18 : dPow (.int 10) (.int 18) = .ok (.int (10 ^ 18)) := dPow_of (by decide +kernel)
@[simp] theorem pow_10_9 : dPow (.int 10) (.int 9) = .ok (.int (10 ^ 9)) := dPow_of (by decide +kernel)
@[simp] theorem pow_10_10 : dPow (.int 10) (.int 10) = .ok (.int (10 ^ 10)) := dPow_of (by decide +kernel)
/-! ### loops -/
@[simp] theorem isInt_bl (b : Bool) : isInt (.bl b) = .ok (.bl true) := Eq.trans rfl rfl
@[simp] theorem isInt_tup (ds : List D) : isInt (.tup ds) = .ok (.bl false) := Eq.trans rfl rfl
@[simp] theorem isInt_str (x : Str) : isInt (.str x) = .ok (.bl false) := Eq.trans rfl rfl
@[simp] theorem isInt_lst (ds : List D) : isInt (.lst ds) = .ok (.bl false) := Eq.trans rfl rfl
@[simp] theorem isInt_non  : isInt .non = .ok (.bl false) := Eq.trans rfl rfl
@[simp] theorem isBool_bl (b : Bool) : isBool (.bl b) = .ok (.bl true) := Eq.trans rfl rfl
@[simp] theorem isBool_tup (ds : List D) : isBool (.tup ds) = .ok (.bl false) := Eq.trans rfl rfl
@[simp] theorem isBool_str (x : Str) : isBool (.str x) = .ok (.bl false) := Eq.trans rfl rfl
@[simp] theorem isBool_lst (ds : List D) : isBool (.lst ds) = .ok (.bl false) := Eq.trans rfl rfl
@[simp] theorem isBool_non  : isBool .non = .ok (.bl false) := Eq.trans rfl rfl
@[simp] theorem isTup_int (i : Int) : isTup (.int i) = .ok (.bl false) := Eq.trans rfl rfl
@[simp] theorem isTup_bl (b : Bool) : isTup (.bl b) = .ok (.bl false) := Eq.trans rfl rfl
@[simp] theorem isTup_str (x : Str) : isTup (.str x) = .ok (.bl false) := Eq.trans rfl rfl
@[simp] theorem isTup_lst (ds : List D) : isTup (.lst ds) = .ok (.bl false) := Eq.trans rfl rfl
@[simp] theorem isTup_non  : isTup .non = .ok (.bl false) := Eq.trans rfl rfl
@[simp] theorem isStr_int (i : Int) : isStr (.int i) = .ok (.bl false) := Eq.trans rfl rfl
@[simp] theorem isStr_bl (b : Bool) : isStr (.bl b) = .ok (.bl false) := Eq.trans rfl rfl
@[simp] theorem isStr_tup (ds : List D) : isStr (.tup ds) = .ok (.bl false) := Eq.trans rfl rfl
@[simp] theorem isStr_str (x : Str) : isStr (.str x) = .ok (.bl true) := Eq.trans rfl rfl
@[simp] theorem isStr_lst (ds : List D) : isStr (.lst ds) = .ok (.bl false) := Eq.trans rfl rfl
@[simp] theorem isStr_non  : isStr .non = .ok (.bl false) := Eq.trans rfl rfl
@[simp] theorem isList_int (i : Int) : isList (.int i) = .ok (.bl false) := Eq.trans rfl rfl
@[simp] theorem isList_bl (b : Bool) : isList (.bl b) = .ok (.bl false) := Eq.trans rfl rfl
@[simp] theorem isList_tup (ds : List D) : isList (.tup ds) = .ok (.bl false) := Eq.trans rfl rfl
@[simp] theorem isList_str (x : Str) : isList (.str x) = .ok (.bl false) := Eq.trans rfl rfl
@[simp] theorem isList_lst (ds : List D) : isList (.lst ds) = .ok (.bl true) := Eq.trans rfl rfl
@[simp] theorem isList_non  : isList .non = .ok (.bl false) := Eq.trans rfl rfl
@[simp] theorem dIx_tup2 (a b c : D) (r : List D) : dIx (.tup (a :: b :: c :: r)) (.int 2) = .ok c := by
  have : (2 : Int) < r.length + 1 + 1 + 1 := by omega
  simp [dIx, atI, ixN, this]
@[simp] theorem dIx_tup3 (a b c d : D) (r : List D) : dIx (.tup (a :: b :: c :: d :: r)) (.int 3) = .ok d := by
  have : (3 : Int) < r.length + 1 + 1 + 1 + 1 := by omega
  simp [dIx, atI, ixN, this]
@[simp] theorem dEq_str (a b : Str) : dEq (.str a) (.str b) = .ok (.bl (decide (a = b))) := Eq.trans rfl rfl
@[simp] theorem dNe_str (a b : Str) : dNe (.str a) (.str b) = .ok (.bl (!decide (a = b))) := Eq.trans rfl rfl
@[simp] theorem dEq_bl (a b : Bool) : dEq (.bl a) (.bl b) = .ok (.bl (decide (a = b))) := by
  simp [dEq, D.pl, D.beq, D.py, PyData.eqv]
  cases a <;> cases b <;> rfl
@[simp] theorem dNe_bl (a b : Bool) : dNe (.bl a) (.bl b) = .ok (.bl (!decide (a = b))) := by
  simp [dNe, D.pl, D.beq, D.py, PyData.eqv]
  cases a <;> cases b <;> rfl
@[simp] theorem truth_bl (b : Bool) : D.truth (.bl b) = .ok b := Eq.trans rfl rfl
@[simp] theorem truth_int (i : Int) : D.truth (.int i) = .ok (decide (i ≠ 0)) := by
  show Res.ok (i != 0) = _
  congr 1
  exact Bool.eq_iff_iff.mpr (by simp)
/-- a loop all of whose turns end well -/
theorem turns_nx {p : Pat} {body : DL.Env → Out} : ∀ {ds : List D} (J : List D → DL.Env → Prop), (∀ d r e, J (d :: r) e → ∃ e1 e2, p.bind d e = .ok e1 ∧ body e1 = .nx e2 ∧ J r e2) → ∀ {e}, J ds e → ∃ e', turns p body ds e = .nx e' ∧ J [] e'
  | [], J, h, e, h0 => ⟨e, rfl, h0⟩
  | d :: r, J, h, e, h0 => by
    obtain ⟨e1, e2, a, b, c⟩ := h d r e h0
    obtain ⟨e', x, y⟩ := turns_nx J h c
    refine ⟨e', ?_, y⟩
    unfold turns
    rw [a]
    dsimp only
    rw [b]
    exact x
/-- a loop over range(n) all of whose turns end well -/
theorem turns_range {s : Nat} {body : DL.Env → Out} (J : Nat → DL.Env → Prop) (n : Nat) (h : ∀ i e, i < n → J i e → ∃ e2, body (e.set s (some (.int (i : Int), false))) = .nx e2 ∧ J (i + 1) e2) {e : DL.Env} (h0 : J 0 e) :
    ∃ e', turns (.nm s) body (rangeD 0 n) e = .nx e' ∧ J n e' := by
  have gen : ∀ (m i : Nat) (e : DL.Env), i + m = n → J i e → ∃ e', turns (.nm s) body ((List.range m).map fun k => D.int ((i + k : Nat) : Int)) e = .nx e' ∧ J n e' := by
    intro m
    induction m with
    | zero => intro i e hi hj; have hi2 : i = n := by omega
              subst hi2; exact ⟨e, rfl, hj⟩
    | succ m ih =>
      intro i e hi hj
      obtain ⟨e2, a, b⟩ := h i e (by omega) hj
      obtain ⟨e', x, y⟩ := ih (i + 1) e2 (by omega) b
      refine ⟨e', ?_, y⟩
      rw [List.range_succ_eq_map, List.map_cons, List.map_map]
      unfold turns
      dsimp only [Pat.bind]
      rw [Nat.add_zero, a]
      dsimp only
      rw [← x]
      congr 1
      apply List.map_congr_left
      intro k _
      show D.int ((i + (k + 1) : Nat) : Int) = D.int ((i + 1 + k : Nat) : Int)
      rw [Nat.add_assoc, Nat.add_comm 1 k]
  obtain ⟨e', a, b⟩ := gen n 0 e (by omega) h0
  refine ⟨e', ?_, b⟩
  rw [← a]
  unfold rangeD
  simp
/-- range(0, b, c) upwards -/
theorem rg3_up {b c : Int} {n : Nat} (hc : 0 < c) (hc2 : c < 1000000) (hb : b ≤ 1000000) (hn : 0 < b → (n : Int) = (b - 1) / c + 1) (hz : b ≤ 0 → n = 0) (hb0 : 0 ≤ b) : rg3 0 b c = .ok (prog3 0 c n) := by
  refine rg3_of ⟨by omega, by omega, ?_, ?_⟩
  · have e : Builtin.Range.rangeSize 0 b c = (n : Int) := by
      unfold Builtin.Range.rangeSize
      by_cases h : 0 < b
      · rw [if_pos (by omega), if_pos h, hn h]; simp
      · rw [if_pos (by omega), if_neg h, hz (by omega)]; rfl
    have hn2 : (n : Int) ≤ 1000001 := by
      by_cases h : 0 < b
      · rw [hn h]
        have : (b - 1) / c ≤ b - 1 := Int.ediv_le_self _ (by omega)
        omega
      · rw [hz (by omega)]; decide
    unfold Builtin.Range.small
    rw [e]
    have fits : ∀ z : Int, -100000000 ≤ z → z ≤ 100000000 → Builtin.Range.rangeFitsLong z = true := fun z a b => by
      unfold Builtin.Range.rangeFitsLong
      simp
      omega
    rw [fits 0 (by omega) (by omega), fits b (by omega) (by omega), fits c (by omega) (by omega), fits n (by omega) (by omega)]
    simp only [Bool.and_self, Bool.true_and]
    rw [if_pos (by omega), fits (b + (c - 1)) (by omega) (by omega)]
    simp
  · unfold Builtin.Range.rangeSize
    by_cases h : 0 < b
    · rw [if_pos (by omega), if_pos h, hn h]; simp
    · rw [if_pos (by omega), if_neg h, hz (by omega)]; rfl
/-- a loop over a progression all of whose turns end well -/
theorem turns_prog {s : Nat} {body : DL.Env → Out} (J : Nat → DL.Env → Prop) (i0 c : Int) (n : Nat) (h : ∀ i e, i < n → J i e → ∃ e2, body (e.set s (some (.int (i0 + (i : Int) * c), false))) = .nx e2 ∧ J (i + 1) e2) {e : DL.Env} (h0 : J 0 e) :
    ∃ e', turns (.nm s) body (prog3 i0 c n) e = .nx e' ∧ J n e' := by
  have gen : ∀ (m i : Nat) (e : DL.Env), i + m = n → J i e → ∃ e', turns (.nm s) body ((List.range m).map fun k => D.int (i0 + ((i + k : Nat) : Int) * c)) e = .nx e' ∧ J n e' := by
    intro m
    induction m with
    | zero => intro i e hi hj; have hi2 : i = n := by omega
              subst hi2; exact ⟨e, rfl, hj⟩
    | succ m ih =>
      intro i e hi hj
      obtain ⟨e2, a, b⟩ := h i e (by omega) hj
      obtain ⟨e', x, y⟩ := ih (i + 1) e2 (by omega) b
      refine ⟨e', ?_, y⟩
      rw [List.range_succ_eq_map, List.map_cons, List.map_map]
      unfold turns
      dsimp only [Pat.bind]
      rw [Nat.add_zero, a]
      dsimp only
      rw [← x]
      congr 1
      apply List.map_congr_left
      intro k _
      show D.int (i0 + ((i + (k + 1) : Nat) : Int) * c) = D.int (i0 + ((i + 1 + k : Nat) : Int) * c)
      rw [Nat.add_assoc, Nat.add_comm 1 k]
  obtain ⟨e', a, b⟩ := gen n 0 e (by omega) h0
  refine ⟨e', ?_, b⟩
  rw [← a]
  unfold prog3
  simp
theorem runDef_ro {n m : Nat} {fb : DL.Env → Out} {ds : List D} {d : D} (h : fb (env0 n m ds) = .ro d) : runDef n m fb ds = .ok d := by unfold runDef; rw [h]
theorem runDef_rt {n m : Nat} {fb : DL.Env → Out} {ds : List D} {d : D} (h : fb (env0 n m ds) = .rt d) : runDef n m fb ds = .ok d := by unfold runDef; rw [h]
end DL

namespace DL
open PySem PySem.Spec PyProof.Rows L2
open PySem.Builtin.Int (intBits)
/-! ### Euclid's loop over slots 0, 1, 2 -/
noncomputable def gcdLoop : DL.Env → Out := sWhile [] (bTest dGt (eVarS 1) (eC (.int 0))) (sSeq (sSet [] 2 (eOp dMod (eVarS 0) (eVarS 1))) (sSeq (sSet [] 0 (eVarS 1)) (sSeq (sSet [] 1 (eVarS 2)) sSkip)))
theorem gcdLoop_is : ∀ (b a : Nat) (z : Sl), ∃ z', gcdLoop [some (.int a, false), some (.int b, false), z] = .nx [some (.int (Nat.gcd b a : Nat), false), some (.int 0, false), z'] := by
  intro b
  induction b using Nat.strongRecOn with
  | ind b ih =>
    intro a z
    unfold gcdLoop
    rw [while_eq]
    by_cases hb : b = 0
    · subst hb
      simp
    · have hb' : (0 : Int) < b := by omega
      have hb2 : (b : Int) ≠ 0 := by omega
      have hb3 : 0 < b := by omega
      have e : (a : Int) % b = ((a % b : Nat) : Int) := by simp
      have md : dMod (.int a) (.int b) = .ok (.int ((a % b : Nat) : Int)) := by rw [dMod_lit _ _ hb', e]
      simp [hb3, hb2, hb, md, -dMod_lit]
      rw [e]
      have h2 := ih (a % b) (Nat.mod_lt _ (by omega)) b (some (.int ((a % b : Nat) : Int), false))
      unfold gcdLoop at h2
      rw [Nat.gcd_rec b a]
      exact h2
noncomputable def gcdBody : DL.Env → Out := sSeq gcdLoop (sSeq (sRet [] (eVarS 0)) sSkip)
theorem gcd_def (a b : Nat) : runDef 2 3 gcdBody [.int a, .int b] = .ok (.int (Nat.gcd b a : Nat)) := by
  refine runDef_rt ?_
  obtain ⟨z', h⟩ := gcdLoop_is b a none
  unfold gcdBody
  simp [env0, h]
/-- the share a rational number is -/
def shr (x : Rat) : D := .tup [.int x.num, .int x.den]
theorem divInt_parts (a : Int) (b : Nat) (hb : b ≠ 0) : (Rat.divInt a b).num = a.fdiv (Nat.gcd b a.natAbs : Nat) ∧ ((Rat.divInt a b).den : Int) = (b : Int).fdiv (Nat.gcd b a.natAbs : Nat) := by
  have e : Rat.divInt a b = Rat.normalize a b hb := by
    rw [Rat.normalize_eq_mkRat]; rfl
  have : (0 : Int) ≤ (Nat.gcd b a.natAbs : Nat) := Int.natCast_nonneg _
  rw [Int.fdiv_eq_ediv_of_nonneg _ this, Int.fdiv_eq_ediv_of_nonneg _ this, Nat.gcd_comm, e, Rat.normalize_eq hb]
  exact ⟨rfl, by simp⟩
noncomputable def shareBody (G : List D → Res D) (c : String) : DL.Env → Out := (sSeq (sIf [] (bTest dEq (eVarS 1) (eC (.int 0))) (sSeq (sRaise c) sSkip) sSkip) (sSeq (sIf [] (bTest dLt (eVarS 1) (eC (.int 0))) (sSeq (sSet [] 0 (eNeg (eVarS 0))) (sSeq (sSet [] 1 (eNeg (eVarS 1))) sSkip)) sSkip) (sSeq (sSet [] 2 (eCall G (aCons (e1 dAbs (eVarS 0)) (aCons (eVarS 1) aNil)))) (sSeq (sRet [] (eTup (aCons (eOp dDiv (eVarS 0) (eVarS 2)) (aCons (eOp dDiv (eVarS 1) (eVarS 2)) aNil)))) sSkip))))
theorem share_def {G : List D → Res D} (hG : ∀ a b : Nat, G [.int a, .int b] = .ok (.int (Nat.gcd b a : Nat))) (c : String) {a b : Int} (hb : b ≠ 0) {n : Nat} (hs : Sm n b) (hn : n ≤ 8999) : runDef 2 3 (shareBody G c) [.int a, .int b] = .ok (shr (Rat.divInt a b)) := by
  refine runDef_rt ?_
  have key : ∀ (a : Int) (b : Nat), b ≠ 0 → Sm n b → ∀ z, (sSeq (sSet [] 2 (eCall G (aCons (e1 dAbs (eVarS 0)) (aCons (eVarS 1) aNil)))) (sSeq (sRet [] (eTup (aCons (eOp dDiv (eVarS 0) (eVarS 2)) (aCons (eOp dDiv (eVarS 1) (eVarS 2)) aNil)))) sSkip)) [some (.int a, false), some (.int b, false), z] = .rt (shr (Rat.divInt a b)) := by
    intro a b hb hs z
    have hg : Nat.gcd b a.natAbs ≠ 0 := fun z => hb (Nat.eq_zero_of_gcd_eq_zero_left z)
    have hl : ((Nat.gcd b a.natAbs : Nat) : Int).natAbs.log2 < 9000 := (hs.le (by simpa using Nat.gcd_le_left a.natAbs (by omega))).lg hn
    have hg' : ((Nat.gcd b a.natAbs : Nat) : Int) ≠ 0 := by omega
    obtain ⟨p1, p2⟩ := divInt_parts a b hb
    have hG' := hG a.natAbs b
    rw [shr, p1, p2]
    simp [hG', dDiv_int hg' hl]
  unfold shareBody
  by_cases hneg : b < 0
  · obtain ⟨m, hm⟩ : ∃ m : Nat, -b = m := ⟨(-b).toNat, by omega⟩
    have hm0 : m ≠ 0 := by omega
    have hsm : Sm n (m : Int) := by rw [← hm]; exact hs.neg
    have e : Rat.divInt a b = Rat.divInt (-a) m := by rw [← hm]; exact (Rat.neg_divInt_neg a b).symm
    have k := key (-a) m hm0 hsm none
    rw [e, ← k]
    simp [env0, hb, hneg, hm]
  · obtain ⟨m, rfl⟩ : ∃ m : Nat, b = m := ⟨b.toNat, by omega⟩
    have k := key a m (by omega) hs none
    have hm0 : m ≠ 0 := by omega
    have hng : ¬ ((m : Int) < 0) := by omega
    rw [← k]
    simp [env0, hm0, hng]
theorem share_zero {G : List D → Res D} (c : String) (a : Int) : runDef 2 3 (shareBody G c) [.int a, .int 0] = .exc c [] := by
  unfold runDef shareBody
  simp [env0]
end DL

namespace DL
open PySem PySem.Spec PyProof.Rows L2
open PySem.Builtin.Int (intBits)
/-! ### shares -/
@[simp] theorem shr_0 (x : Rat) : dIx (shr x) (.int 0) = .ok (.int x.num) := by simp [shr]
@[simp] theorem shr_1 (x : Rat) : dIx (shr x) (.int 1) = .ok (.int x.den) := by simp [shr]
theorem shr_pl (x : Rat) (n : Nat) : (shr x).pl (n + 1) = true := rfl
/-- sizes of a share -/
def SmR (n m : Nat) (x : Rat) : Prop := Sm n x.num ∧ Sm m (x.den : Int)
theorem SmR.mono {n m n' m' : Nat} {x : Rat} (h : SmR n m x) (a : n ≤ n') (b : m ≤ m') : SmR n' m' x := ⟨h.1.mono a, h.2.mono b⟩
theorem divInt_small {a : Int} {b : Nat} (hb : b ≠ 0) : (Rat.divInt a b).num.natAbs ≤ a.natAbs ∧ (Rat.divInt a b).den ≤ b := by
  obtain ⟨p1, p2⟩ := divInt_parts a b hb
  have hg : (0 : Int) ≤ (Nat.gcd b a.natAbs : Nat) := Int.natCast_nonneg _
  rw [Int.fdiv_eq_ediv_of_nonneg _ hg] at p1 p2
  constructor
  · rw [p1, Int.natAbs_ediv_of_dvd (Int.ofNat_dvd_left.mpr (Nat.gcd_dvd_right _ _))]
    simpa using Nat.div_le_self _ _
  · have : ((b : Int) / (Nat.gcd b a.natAbs : Nat)) = ((b / Nat.gcd b a.natAbs : Nat) : Int) := by simp
    rw [this] at p2
    have := Nat.div_le_self b (Nat.gcd b a.natAbs)
    omega
theorem SmR.divInt {n m : Nat} {a : Int} {b : Nat} (hb : b ≠ 0) (h : Sm n a) (k : Sm m (b : Int)) : SmR n m (Rat.divInt a b) := by
  obtain ⟨p, q⟩ := divInt_small (a := a) hb
  exact ⟨h.le p, k.le (by simpa using q)⟩
theorem divInt_add (x y : Rat) : Rat.divInt (x.num * y.den + y.num * x.den) ((x.den * y.den : Nat) : Int) = x + y := by
  have hx : (x.den : Int) ≠ 0 := by have := x.den_nz; omega
  have hy : (y.den : Int) ≠ 0 := by have := y.den_nz; omega
  have := Rat.divInt_add_divInt x.num y.num hx hy
  rw [Rat.num_divInt_den, Rat.num_divInt_den] at this
  rw [this, Int.natCast_mul]
theorem divInt_mul (x y : Rat) : Rat.divInt (x.num * y.num) ((x.den * y.den : Nat) : Int) = x * y := by
  have := Rat.divInt_mul_divInt x.num y.num (d₁ := x.den) (d₂ := y.den)
  rw [Rat.num_divInt_den, Rat.num_divInt_den] at this
  rw [this, Int.natCast_mul]
theorem den_mul_ne (x y : Rat) : x.den * y.den ≠ 0 := Nat.mul_ne_zero x.den_nz y.den_nz
theorem SmR.add {n m n' m' k : Nat} {x y : Rat} (h : SmR n m x) (q : SmR n' m' y) (a : n + m' ≤ k) (b : n' + m ≤ k) : SmR (k + 1) (m + m') (x + y) := by
  rw [← divInt_add]
  refine SmR.divInt (den_mul_ne x y) (((h.1.mul q.2).mono a).add ((q.1.mul h.2).mono b)) ?_
  rw [Int.natCast_mul]
  exact h.2.mul q.2
theorem SmR.mul {n m n' m' : Nat} {x y : Rat} (h : SmR n m x) (q : SmR n' m' y) : SmR (n + n') (m + m') (x * y) := by
  rw [← divInt_mul]
  refine SmR.divInt (den_mul_ne x y) (h.1.mul q.1) ?_
  rw [Int.natCast_mul]
  exact h.2.mul q.2
/-- share_of's promise -/
def ShareOf (S : List D → Res D) : Prop := ∀ (a b : Int) (n : Nat), b ≠ 0 → Sm n b → n ≤ 8999 → S [.int a, .int b] = .ok (shr (Rat.divInt a b))
noncomputable def addBody (S : List D → Res D) : DL.Env → Out := (sSeq (sRet [] (eCall S (aCons (eOp dAdd (eOp dMul (eOp dIx (eVarS 0) (eC (.int 0))) (eOp dIx (eVarS 1) (eC (.int 1)))) (eOp dMul (eOp dIx (eVarS 1) (eC (.int 0))) (eOp dIx (eVarS 0) (eC (.int 1))))) (aCons (eOp dMul (eOp dIx (eVarS 0) (eC (.int 1))) (eOp dIx (eVarS 1) (eC (.int 1)))) aNil)))) sSkip)
theorem add_def {S : List D → Res D} (hS : ShareOf S) {x y : Rat} {n m n' m' : Nat} (h : SmR n m x) (q : SmR n' m' y) (a : n + m' ≤ big) (b : n' + m ≤ big) (c : m + m' ≤ 8999) : runDef 2 2 (addBody S) [shr x, shr y] = .ok (shr (x + y)) := by
  refine runDef_rt ?_
  have hd : ((x.den : Int) * y.den) ≠ 0 := by rw [← Int.natCast_mul]; have := den_mul_ne x y; omega
  have s := hS (x.num * y.den + y.num * x.den) (x.den * y.den) _ hd (h.2.mul q.2) c
  have z := divInt_add x y
  rw [Int.natCast_mul] at z
  rw [z] at s
  unfold addBody
  simp [env0, dMul_int h.1 q.2 a, dMul_int q.1 h.2 b, dMul_int h.2 q.2 (Nat.le_trans c (by decide)), s]
noncomputable def mulBody (S : List D → Res D) : DL.Env → Out := (sSeq (sRet [] (eCall S (aCons (eOp dMul (eOp dIx (eVarS 0) (eC (.int 0))) (eOp dIx (eVarS 1) (eC (.int 0)))) (aCons (eOp dMul (eOp dIx (eVarS 0) (eC (.int 1))) (eOp dIx (eVarS 1) (eC (.int 1)))) aNil)))) sSkip)
theorem mul_def {S : List D → Res D} (hS : ShareOf S) {x y : Rat} {n m n' m' : Nat} (h : SmR n m x) (q : SmR n' m' y) (a : n + n' ≤ big) (c : m + m' ≤ 8999) : runDef 2 2 (mulBody S) [shr x, shr y] = .ok (shr (x * y)) := by
  refine runDef_rt ?_
  have hd : ((x.den : Int) * y.den) ≠ 0 := by rw [← Int.natCast_mul]; have := den_mul_ne x y; omega
  have s := hS (x.num * y.num) (x.den * y.den) _ hd (h.2.mul q.2) c
  have z := divInt_mul x y
  rw [Int.natCast_mul] at z
  rw [z] at s
  unfold mulBody
  simp [env0, dMul_int h.1 q.1 a, dMul_int h.2 q.2 (Nat.le_trans c (by decide)), s]
/-- added's promise -/
def AddOf (S : List D → Res D) : Prop := ∀ (x y : Rat) (n m n' m' : Nat), SmR n m x → SmR n' m' y → n + m' ≤ big → n' + m ≤ big → m + m' ≤ 8999 → S [shr x, shr y] = .ok (shr (x + y))
noncomputable def allBody (S : List D → Res D) : DL.Env → Out := (sSeq (sSet [] 1 (eTup (aCons (eC (.int 0)) (aCons (eC (.int 1)) aNil)))) (sSeq (sFor [] (.nm 2) (iSeq (eVarS 0)) (sSeq (sSet [] 1 (eCall S (aCons (eVarS 1) (aCons (eVarS 2) aNil)))) sSkip)) (sSeq (sRet [] (eVarS 1)) sSkip)))
theorem shr_zero : (.tup [.int 0, .int 1] : D) = shr 0 := rfl
theorem shr_one : (.tup [.int 1, .int 1] : D) = shr 1 := rfl
def sumR : List Rat → Rat := fun l => l.foldl (· + ·) 0
/-- so many shares of such sizes make a sum of such a size -/
theorem all_loop {S : List D → Res D} (hS : AddOf S) {cn cd N : Nat} (hN : cd * N + 1 + cd ≤ 8999) (hM : (cd + 1) * N + cn + 1 + cd ≤ big) (z0 : Sl) : ∀ (l : List Rat) (i : Nat) (t : Rat) (z : Sl), (∀ x ∈ l, SmR cn cd x) → SmR ((cd + 1) * i + cn + 1) (cd * i + 1) t → i + l.length ≤ N →
    ∃ z', turns (.nm 2) (sSeq (sSet [] 1 (eCall S (aCons (eVarS 1) (aCons (eVarS 2) aNil)))) sSkip) (l.map shr) [z0, some (shr t, false), z] = .nx [z0, some (shr (l.foldl (· + ·) t), false), z'] := by
  intro l
  induction l with
  | nil => intro i t z h s hl; exact ⟨z, rfl⟩
  | cons x l ih =>
    intro i t z h s hl
    rw [List.length_cons] at hl
    have hi : i + 1 ≤ N := by omega
    have h1 : cd * (i + 1) ≤ cd * N := Nat.mul_le_mul_left _ hi
    have h2 : (cd + 1) * (i + 1) ≤ (cd + 1) * N := Nat.mul_le_mul_left _ hi
    have h1' : cd * (i + 1) = cd * i + cd := Nat.mul_succ _ _
    have h2' : (cd + 1) * (i + 1) = (cd + 1) * i + (cd + 1) := Nat.mul_succ _ _
    have h3 : (cd + 1) * i = cd * i + i := Nat.succ_mul _ _
    have hx := h x List.mem_cons_self
    have a := hS t x _ _ _ _ s hx (by omega) (by omega) (by omega)
    have s' : SmR ((cd + 1) * (i + 1) + cn + 1) (cd * (i + 1) + 1) (t + x) := (SmR.add s hx (k := (cd + 1) * i + cn + 1 + cd) (by omega) (by omega)).mono (by omega) (by omega)
    obtain ⟨z', q⟩ := ih (i + 1) (t + x) (some (shr x, false)) (fun y hy => h y (List.mem_cons_of_mem _ hy)) s' (by omega)
    refine ⟨z', ?_⟩
    rw [List.map_cons, List.foldl_cons, ← q]
    rw [turns]
    simp [a]
theorem all_def {S : List D → Res D} (hS : AddOf S) {cn cd : Nat} {l : List Rat} {d : D} (hd : d = .lst (l.map shr) ∨ d = .tup (l.map shr)) (h : ∀ x ∈ l, SmR cn cd x) (hN : cd * l.length + 1 + cd ≤ 8999) (hM : (cd + 1) * l.length + cn + 1 + cd ≤ big) : runDef 1 3 (allBody S) [d] = .ok (shr (sumR l)) := by
  refine runDef_rt ?_
  unfold allBody
  obtain ⟨z', q⟩ := all_loop hS hN hM (some (d, false)) l 0 0 none h ⟨show 0 < _ from Nat.two_pow_pos _, show 1 < 2 ^ _ by simp⟩ (by omega)
  rw [← shr_zero] at q
  rcases hd with rfl | rfl <;> simp [env0, q, sumR]
end DL

namespace DL
open PySem PySem.Spec PyProof.Rows L2
open PySem.Builtin.Int (intBits)
/-! ### powers of a pair by squarings -/
noncomputable def powLoop : DL.Env → Out := (sWhile [] (bTest dGt (eVarS 1) (eC (.int 0))) (sSeq (sIf [] (bTest dEq (eOp dMod (eVarS 1) (eC (.int 2))) (eC (.int 1))) (sSeq (sSet [] 2 (eTup (aCons (eOp dMul (eOp dIx (eVarS 2) (eC (.int 0))) (eOp dIx (eVarS 0) (eC (.int 0)))) (aCons (eOp dMul (eOp dIx (eVarS 2) (eC (.int 1))) (eOp dIx (eVarS 0) (eC (.int 1)))) aNil)))) sSkip) sSkip) (sSeq (sSet [] 1 (eOp dDiv (eVarS 1) (eC (.int 2)))) (sSeq (sIf [] (bTest dGt (eVarS 1) (eC (.int 0))) (sSeq (sSet [] 0 (eTup (aCons (eOp dMul (eOp dIx (eVarS 0) (eC (.int 0))) (eOp dIx (eVarS 0) (eC (.int 0)))) (aCons (eOp dMul (eOp dIx (eVarS 0) (eC (.int 1))) (eOp dIx (eVarS 0) (eC (.int 1)))) aNil)))) sSkip) sSkip) sSkip))))
noncomputable def powBody : DL.Env → Out := (sSeq (sSet [] 2 (eTup (aCons (eC (.int 1)) (aCons (eC (.int 1)) aNil)))) (sSeq powLoop (sSeq (sRet [] (eVarS 2)) sSkip)))
def pr (a b : Int) : D := .tup [.int a, .int b]
@[simp] theorem pr_0 (a b : Int) : dIx (pr a b) (.int 0) = .ok (.int a) := by simp [pr]
@[simp] theorem pr_1 (a b : Int) : dIx (pr a b) (.int 1) = .ok (.int b) := by simp [pr]
theorem powLoop_is : ∀ (k : Nat) (s t u v : Int) (m n : Nat), Sm m s → Sm m t → Sm n u → Sm n v → m + 2 * (n * k) ≤ big →
    ∃ x' k', powLoop [some (pr u v, false), some (.int (k : Int), false), some (pr s t, false)] = .nx [x', k', some (pr (s * u ^ k) (t * v ^ k), false)] := by
  intro k
  induction k using Nat.strongRecOn with
  | ind k ih =>
    intro s t u v m n hs ht hu hv hb
    unfold powLoop
    rw [while_eq]
    by_cases hk : k = 0
    · subst hk
      simp [pr]
    · have hk3 : 0 < k := by omega
      have key : ∃ h, h = k / 2 := ⟨_, rfl⟩
      obtain ⟨h, hh⟩ := key
      obtain ⟨o, ho⟩ : ∃ o, o = k % 2 := ⟨_, rfl⟩
      have hk2 : ((k : Int) / 2) = (h : Int) := by omega
      have hmod : (k : Int) % 2 = (o : Int) := by omega
      have e1 : n ≤ n * k := Nat.le_mul_of_pos_right _ hk3
      have e2 : n * k = 2 * (n * h) + n * o := by
        have : k = 2 * h + o := by omega
        conv => lhs; rw [this, Nat.mul_add]
        rw [Nat.mul_left_comm]
      have e3 : 2 * n * h = 2 * (n * h) := Nat.mul_assoc _ _ _
      have ms : dMul (.int s) (.int u) = .ok (.int (s * u)) := dMul_int hs hu (by omega)
      have mt : dMul (.int t) (.int v) = .ok (.int (t * v)) := dMul_int ht hv (by omega)
      have mu : dMul (.int u) (.int u) = .ok (.int (u * u)) := dMul_int hu hu (by omega)
      have mv : dMul (.int v) (.int v) = .ok (.int (v * v)) := dMul_int hv hv (by omega)
      have pw : ∀ z : Int, (z * z) ^ h = z ^ (2 * h) := fun z => by rw [Int.pow_mul, show z ^ 2 = z * z from by rw [Int.pow_succ, Int.pow_succ, Int.pow_zero, Int.one_mul]]
      have hlt : h < k := by omega
      have ho2 : o = 1 ∨ o = 0 := by omega
      rcases ho2 with ho1 | ho1
      · subst ho1
        have pz : ∀ x z : Int, x * z * z ^ (2 * h) = x * z ^ k := fun x z => by
          have : k = 2 * h + 1 := by omega
          conv => rhs; rw [this, Int.pow_succ]
          rw [Int.mul_assoc, Int.mul_comm z]
        by_cases h0 : h = 0
        · have k1 : k = 1 := by omega
          subst k1
          subst h0
          have hk4 : ((1 : Nat) : Int).fmod 2 = 1 := by decide
          simp [ms, mt, pr]
          rw [while_eq]
          simp [Int.pow_succ]
        · have hz : 0 < h := by omega
          rw [Nat.mul_one] at e2
          obtain ⟨x', k', q⟩ := ih h hlt (s * u) (t * v) (u * u) (v * v) (m + n) (2 * n) (hs.mul hu) (ht.mul hv) ((hu.mul hu).mono (by omega)) ((hv.mul hv).mono (by omega)) (by omega)
          rw [pw, pw, pz, pz] at q
          unfold powLoop at q
          refine ⟨x', k', ?_⟩
          rw [← q]
          clear q ih pw pz
          simp [hk3, hmod, ms, mt, mu, mv, hk2, hz, pr]
      · subst ho1
        have pz : ∀ z : Int, z ^ (2 * h) = z ^ k := fun z => by
          congr 1; omega
        have hz : 0 < h := by omega
        obtain ⟨x', k', q⟩ := ih h hlt s t (u * u) (v * v) m (2 * n) hs ht ((hu.mul hu).mono (by omega)) ((hv.mul hv).mono (by omega)) (by omega)
        rw [pw, pw, pz, pz] at q
        unfold powLoop at q
        refine ⟨x', k', ?_⟩
        rw [← q]
        clear q ih pw pz
        simp [hk3, hmod, ms, mt, mu, mv, hk2, hz, pr]
theorem pow_def (u v : Int) (k n : Nat) (hu : Sm n u) (hv : Sm n v) (h : 1 + 2 * (n * k) ≤ big) : runDef 2 3 powBody [pr u v, .int (k : Int)] = .ok (pr (u ^ k) (v ^ k)) := by
  refine runDef_rt ?_
  obtain ⟨x', k', q⟩ := powLoop_is k 1 1 u v 1 n (by show 1 < 2 ^ 1; decide) (by show 1 < 2 ^ 1; decide) hu hv h
  rw [Int.one_mul, Int.one_mul] at q
  unfold powBody
  unfold pr at *
  simp [env0, q]
end DL

/-! spreads, plainly -/
namespace DL
open PySem PySem.Spec PyProof.Rows L2
open PySem.Builtin.Int (intBits)
@[simp] theorem dIxA_lst (xs : List D) (i : D) : dIxA (.lst xs) i = dIx (.lst xs) i := rfl
@[simp] theorem dIxA_tup (xs : List D) (i : D) : dIxA (.tup xs) i = dIx (.tup xs) i := rfl
@[simp] theorem dIxA_con (xs : List D) (i : D) : dIxA (.con xs) i = dIx (.con xs) i := rfl
@[simp] theorem dIxA_dct (t : Bool) (kvs : List (D × D)) (i : D) : dIxA (.dct t kvs) i = dAt (.dct t kvs) i := rfl
/-- answers: numbers only -/
def ans (k : List Int) : D := .tup (k.map D.int)
theorem ints_inj : ∀ {a b : List Int}, a.map D.int = b.map D.int → a = b
  | [], [], _ => rfl
  | [], _ :: _, h => by cases h
  | _ :: _, [], h => by cases h
  | x :: a, y :: b, h => by
    rw [List.map_cons, List.map_cons, List.cons.injEq] at h
    cases h.1
    rw [ints_inj h.2]
theorem ans_inj {a b : List Int} (h : ans a = ans b) : a = b := ints_inj (by unfold ans at h; injection h)
theorem ans_iff {a b : List Int} : ans a = ans b ↔ a = b := ⟨ans_inj, fun h => by rw [h]⟩
@[simp] theorem ans_key (k : List Int) : D.keyOk true (ans k) = true := by
  simp [ans, D.keyOk, D.isKey]
def kvD (m : List (List Int × Rat)) : List (D × D) := m.map fun p => (ans p.1, shr p.2)
def getR (m : List (List Int × Rat)) (k : List Int) : Option Rat := (m.find? fun p => decide (p.1 = k)).map (·.2)
def putR (m : List (List Int × Rat)) (k : List Int) (x : Rat) : List (List Int × Rat) := if (m.any fun p => decide (p.1 = k)) = true then m.map (fun p => if p.1 = k then (p.1, x) else p) else m ++ [(k, x)]
theorem find_kv (m : List (List Int × Rat)) (k : List Int) : dFind (kvD m) (ans k) = (getR m k).map shr := by
  unfold dFind getR kvD
  induction m with
  | nil => rfl
  | cons p m ih =>
    rw [List.map_cons, List.find?_cons, List.find?_cons]
    by_cases h : p.1 = k
    · have h1 : ans p.1 = ans k := by rw [h]
      simp [h, h1]
    · have h2 : ans p.1 ≠ ans k := fun z => h (ans_inj z)
      simp only [h, h2, decide_false]
      exact ih
theorem set_kv (m : List (List Int × Rat)) (k : List Int) (x : Rat) : dSet (kvD m) (ans k) (shr x) = kvD (putR m k x) := by
  unfold dSet putR
  have e : ((kvD m).any fun p => @decide (p.1 = ans k) (Classical.propDecidable _)) = m.any fun p => decide (p.1 = k) := by
    unfold kvD
    rw [List.any_map]
    congr 1
    funext p
    simp [ans_iff]
  rw [e]
  split
  · unfold kvD
    rw [List.map_map, List.map_map]
    apply List.map_congr_left
    intro p _
    by_cases h : p.1 = k
    · simp [h]
    · have h2 : ans p.1 ≠ ans k := fun z => h (ans_inj z)
      simp [h, h2]
  · simp [kvD]
/-- one more pair -/
def stepR (m : List (List Int × Rat)) (p : List Int × Rat) : List (List Int × Rat) := putR m p.1 ((getR m p.1).getD 0 + p.2)
def totR (ps : List (List Int × Rat)) (k : List Int) : Rat := ps.foldl (fun t p => if p.1 = k then t + p.2 else t) 0
theorem any_key {m : List (List Int × Rat)} {k : List Int} : (m.any fun p => decide (p.1 = k)) = true ↔ k ∈ m.map (·.1) := by
  rw [List.any_eq_true, List.mem_map]
  constructor
  · rintro ⟨p, h, e⟩; exact ⟨p, h, by simpa using e⟩
  · rintro ⟨p, h, e⟩; exact ⟨p, h, by simpa using e⟩
theorem put_keys (m : List (List Int × Rat)) (k : List Int) (x : Rat) : (putR m k x).map (·.1) = if k ∈ m.map (·.1) then m.map (·.1) else m.map (·.1) ++ [k] := by
  unfold putR
  by_cases h : k ∈ m.map (·.1)
  · rw [if_pos (any_key.mpr h), if_pos h, List.map_map]
    apply List.map_congr_left
    intro p _
    show (if p.1 = k then (p.1, x) else p).1 = p.1
    split <;> rfl
  · rw [if_neg (fun z => h (any_key.mp z)), if_neg h, List.map_append]; rfl
theorem get_some {m : List (List Int × Rat)} {k : List Int} : (getR m k).isSome = true ↔ k ∈ m.map (·.1) := by
  unfold getR
  rw [Option.isSome_map, List.find?_isSome, List.mem_map]
  constructor
  · rintro ⟨p, h, e⟩; exact ⟨p, h, by simpa using e⟩
  · rintro ⟨p, h, e⟩; exact ⟨p, h, by simpa using e⟩
theorem get_none {m : List (List Int × Rat)} {k : List Int} (h : k ∉ m.map (·.1)) : getR m k = none := by
  cases e : getR m k with
  | none => rfl
  | some x => exact absurd (get_some.mp (by rw [e]; rfl)) h
theorem put_get_self (m : List (List Int × Rat)) (k : List Int) (x : Rat) : getR (putR m k x) k = some x := by
  unfold putR
  split
  · rename_i h
    induction m with
    | nil => simp at h
    | cons p m ih =>
      unfold getR
      rw [List.map_cons, List.find?_cons]
      by_cases hp : p.1 = k
      · simp [hp]
      · simp only [if_neg hp, decide_eq_false hp]
        have h' : (m.any fun p => decide (p.1 = k)) = true := by simpa [hp] using h
        exact ih h'
  · rename_i h
    unfold getR
    rw [List.find?_append]
    have : m.find? (fun p => decide (p.1 = k)) = none := by
      cases e : m.find? (fun p => decide (p.1 = k)) with
      | none => rfl
      | some p =>
        exfalso
        apply h
        rw [List.any_eq_true]
        exact ⟨p, List.mem_of_find?_eq_some e, List.find?_some (p := fun p : List Int × Rat => decide (p.1 = k)) e⟩
    rw [this]
    simp
theorem put_get_ne {m : List (List Int × Rat)} {k j : List Int} (x : Rat) (h : j ≠ k) : getR (putR m k x) j = getR m j := by
  unfold putR
  split
  · induction m with
    | nil => rfl
    | cons p m ih =>
      unfold getR at *
      rw [List.map_cons, List.find?_cons, List.find?_cons]
      by_cases hp : p.1 = k
      · have hj : p.1 ≠ j := fun z => h (by rw [← z, hp])
        simp only [if_pos hp, decide_eq_false hj]
        rename_i hh
        by_cases h3 : (m.any fun p => decide (p.1 = k)) = true
        · exact ih h3
        · have : m.map (fun p => if p.1 = k then (p.1, x) else p) = m := by
            conv => rhs; rw [← List.map_id m]
            apply List.map_congr_left
            intro q hq
            rw [if_neg]
            · rfl
            · intro z
              apply h3
              rw [List.any_eq_true]
              exact ⟨q, hq, by simpa using z⟩
          rw [this]
      · simp only [if_neg hp]
        by_cases hj : p.1 = j
        · simp [hj]
        · simp only [decide_eq_false hj]
          rename_i hh
          exact ih (by simpa [hp] using hh)
  · unfold getR
    rw [List.find?_append]
    cases m.find? (fun p => decide (p.1 = j)) with
    | some p => rfl
    | none => simp [Ne.symm h]
/-- what the sums are after so many pairs -/
structure SumsOf (m ps : List (List Int × Rat)) : Prop where
  nd : (m.map (·.1)).Nodup
  ks : ∀ k, k ∈ m.map (·.1) ↔ k ∈ ps.map (·.1)
  gt : ∀ k, k ∈ ps.map (·.1) → getR m k = some (totR ps k)
  ln : m.length ≤ ps.length
theorem tot_snoc (ps : List (List Int × Rat)) (p : List Int × Rat) (k : List Int) : totR (ps ++ [p]) k = if p.1 = k then totR ps k + p.2 else totR ps k := by
  unfold totR
  rw [List.foldl_append]
  rfl
theorem tot_none {ps : List (List Int × Rat)} {k : List Int} (h : k ∉ ps.map (·.1)) : totR ps k = 0 := by
  unfold totR
  have gen : ∀ (ps : List (List Int × Rat)) (t : Rat), k ∉ ps.map (·.1) → ps.foldl (fun t p => if p.1 = k then t + p.2 else t) t = t := by
    intro ps
    induction ps with
    | nil => intro t _; rfl
    | cons p ps ih =>
      intro t h
      rw [List.map_cons, List.mem_cons] at h
      rw [List.foldl_cons, if_neg (fun z => h (.inl z.symm))]
      exact ih t fun z => h (.inr z)
  exact gen ps 0 h
theorem SumsOf.step {m ps : List (List Int × Rat)} (S : SumsOf m ps) (p : List Int × Rat) : SumsOf (stepR m p) (ps ++ [p]) := by
  have hk := put_keys m p.1 ((getR m p.1).getD 0 + p.2)
  have ht : (getR m p.1).getD 0 = totR ps p.1 := by
    by_cases h : p.1 ∈ ps.map (·.1)
    · rw [S.gt _ h]; rfl
    · rw [get_none (fun z => h ((S.ks _).mp z)), tot_none h]; rfl
  refine ⟨?_, fun k => ?_, fun k h => ?_, ?_⟩
  · unfold stepR
    rw [hk]
    split
    · exact S.nd
    · rename_i h
      rw [List.nodup_append]
      refine ⟨S.nd, by simp, ?_⟩
      intro a ha b hb
      rw [List.mem_singleton] at hb
      subst hb
      intro e
      subst e
      exact h ha
  · unfold stepR
    rw [hk, List.map_append, List.mem_append, ← S.ks k]
    split
    · rename_i h
      constructor
      · exact .inl
      · rintro (z | z)
        · exact z
        · rw [show k = p.1 by simpa using z]; exact h
    · rw [List.mem_append]; rfl
  · rw [tot_snoc]
    unfold stepR
    by_cases e : p.1 = k
    · subst e
      rw [put_get_self, ht, if_pos rfl]
    · rw [put_get_ne _ (Ne.symm e), if_neg e]
      rw [List.map_append, List.mem_append] at h
      rcases h with z | z
      · exact S.gt _ z
      · exact absurd (by simpa using z : k = p.1).symm e
  · have := congrArg List.length hk
    rw [List.length_map] at this
    unfold stepR
    rw [this, List.length_append]
    have l := S.ln
    split
    · rw [List.length_map]; simp; omega
    · rw [List.length_append, List.length_map]; simp; omega
theorem SumsOf.nil : SumsOf [] [] := ⟨List.nodup_nil, fun k => Iff.rfl, fun k h => absurd h List.not_mem_nil, Nat.le_refl _⟩
theorem SumsOf.all : ∀ (qs : List (List Int × Rat)) {m ps : List (List Int × Rat)}, SumsOf m ps → SumsOf (qs.foldl stepR m) (ps ++ qs)
  | [], m, ps, S => by rw [List.append_nil]; exact S
  | q :: qs, m, ps, S => by
    have := SumsOf.all qs (S.step q)
    rw [List.append_assoc] at this
    exact this
/-! ### order of answers -/
def lexB : List Int → List Int → Bool
  | [], [] => false
  | [], _ :: _ => true
  | _ :: _, [] => false
  | x :: r, y :: t => decide (x < y) || (!decide (y < x) && lexB r t)
theorem lt_ans : ∀ (a b : List Int), D.lt (ans a) (ans b) = lexB a b := by
  have gen : ∀ (a b : List Int), PyProof.Rows.lexLt itemOrd (PySem.W.keyToksAll (D.pys (a.map D.int))) (PySem.W.keyToksAll (D.pys (b.map D.int))) = lexB a b := by
    intro a
    induction a with
    | nil =>
      intro b
      cases b with
      | nil => simp [D.pys, PySem.W.keyToksAll, lexB]; decide
      | cons y b =>
        simp only [List.map_nil, List.map_cons, D.pys, PySem.W.keyToksAll, lexB]
        rw [PyProof.Rows.lex_cons]
        show (decide ((0 : Int) < 1) || _) = true
        simp
    | cons x a ih =>
      intro b
      cases b with
      | nil =>
        simp only [List.map_nil, List.map_cons, D.pys, PySem.W.keyToksAll, lexB]
        rw [PyProof.Rows.lex_cons]
        show (decide ((1 : Int) < 0) || (!decide ((0 : Int) < 1) && _)) = false
        simp
      | cons y b =>
        simp only [List.map_cons, D.pys, D.py, PySem.W.keyToksAll, PySem.W.keyToks, lexB, List.cons_append, List.nil_append]
        rw [PyProof.Rows.lex_cons, PyProof.Rows.lex_cons, ih b]
        show (decide ((1 : Int) < 1) || (!decide ((1 : Int) < 1) && (decide (x < y) || (!decide (y < x) && lexB a b)))) = _
        simp
  intro a b
  exact gen a b
def leB (a b : List Int) : Bool := !lexB b a
theorem le_ans (a b : List Int) : D.le (ans a) (ans b) = leB a b := by
  unfold D.le leB
  rw [lt_ans]
theorem lexB_irr : ∀ a, lexB a a = false
  | [] => rfl
  | x :: r => by simp [lexB, lexB_irr r]
theorem lexB_trans : ∀ {a b c : List Int}, lexB a b = true → lexB b c = true → lexB a c = true
  | [], [], _, h, _ => by cases h
  | [], _ :: _, [], _, h => by simp [lexB] at h
  | [], _ :: _, _ :: _, _, _ => rfl
  | _ :: _, [], _, h, _ => by simp [lexB] at h
  | _ :: _, _ :: _, [], _, h => by simp [lexB] at h
  | x :: a, y :: b, z :: c, h, k => by
    simp only [lexB, Bool.or_eq_true, decide_eq_true_eq, Bool.and_eq_true, Bool.not_eq_true', decide_eq_false_iff_not] at *
    rcases h with h | ⟨h, h2⟩ <;> rcases k with k | ⟨k, k2⟩
    · exact .inl (by omega)
    · exact .inl (by omega)
    · exact .inl (by omega)
    · exact .inr ⟨by omega, lexB_trans h2 k2⟩
theorem lexB_tri : ∀ {a b : List Int}, lexB a b = false → lexB b a = false → a = b
  | [], [], _, _ => rfl
  | [], _ :: _, h, _ => by simp [lexB] at h
  | _ :: _, [], _, h => by simp [lexB] at h
  | x :: a, y :: b, h, k => by
    simp only [lexB, Bool.or_eq_false_iff, decide_eq_false_iff_not, Bool.and_eq_false_iff, Bool.not_eq_false', decide_eq_true_eq] at *
    have e : x = y := by omega
    subst e
    have h2 : lexB a b = false := h.2.resolve_left (by omega)
    have k2 : lexB b a = false := k.2.resolve_left (by omega)
    rw [lexB_tri h2 k2]
theorem leB_trans (a b c : List Int) (h : leB a b = true) (k : leB b c = true) : leB a c = true := by
  unfold leB at *
  simp only [Bool.not_eq_true'] at *
  cases e : lexB c a with
  | false => rfl
  | true =>
    exfalso
    cases f : lexB b c with
    | true => rw [lexB_trans f e] at h; cases h
    | false =>
      have := lexB_tri f k
      subst this
      rw [e] at h; cases h
theorem leB_total (a b : List Int) : (leB a b || leB b a) = true := by
  unfold leB
  cases e : lexB a b with
  | false => simp
  | true =>
    cases f : lexB b a with
    | false => simp
    | true => have := lexB_trans e f; rw [lexB_irr] at this; cases this
/-- two lists that rise strictly and have the same members are one -/
theorem rise_ext : ∀ {a b : List (List Int)}, a.Pairwise (fun x y => lexB x y = true) → b.Pairwise (fun x y => lexB x y = true) → (∀ k, k ∈ a ↔ k ∈ b) → a = b
  | [], [], _, _, _ => rfl
  | [], y :: b, _, _, h => absurd ((h y).mpr List.mem_cons_self) List.not_mem_nil
  | x :: a, [], _, _, h => absurd ((h x).mp List.mem_cons_self) List.not_mem_nil
  | x :: a, y :: b, ha, hb, h => by
    rw [List.pairwise_cons] at ha hb
    have e : x = y := by
      have h1 := (h x).mp List.mem_cons_self
      have h2 := (h y).mpr List.mem_cons_self
      rw [List.mem_cons] at h1 h2
      rcases h1 with h1 | h1
      · exact h1
      · rcases h2 with h2 | h2
        · exact h2.symm
        · have := lexB_trans (ha.1 _ h2) (hb.1 _ h1)
          rw [lexB_irr] at this; cases this
    subst e
    congr 1
    refine rise_ext ha.2 hb.2 fun k => ?_
    have := h k
    rw [List.mem_cons, List.mem_cons] at this
    constructor
    · intro z
      rcases this.mp (.inr z) with w | w
      · subst w; have := ha.1 _ z; rw [lexB_irr] at this; cases this
      · exact w
    · intro z
      rcases this.mpr (.inr z) with w | w
      · subst w; have := hb.1 _ z; rw [lexB_irr] at this; cases this
      · exact w
def sortK (ks : List (List Int)) : List (List Int) := ks.mergeSort leB
theorem sortK_mem {ks : List (List Int)} {k : List Int} : k ∈ sortK ks ↔ k ∈ ks := List.mem_mergeSort
theorem sortK_rise {ks : List (List Int)} (h : ks.Nodup) : (sortK ks).Pairwise (fun x y => lexB x y = true) := by
  have p : (sortK ks).Pairwise (fun a b => leB a b = true) := List.pairwise_mergeSort (fun a b c h k => leB_trans a b c h k) (fun a b => leB_total a b) ks
  have n : (sortK ks).Nodup := (List.mergeSort_perm ks leB).nodup_iff.mpr h
  refine (p.and n).imp fun {a b} z => ?_
  cases e : lexB a b with
  | true => rfl
  | false =>
    have z1 := z.1
    unfold leB at z1
    exact absurd (lexB_tri e (by simpa using z1)) z.2
theorem sortD_ans (ks : List (List Int)) : sortD (ks.map ans) = (sortK ks).map ans := by
  unfold sortD sortK
  rw [List.map_mergeSort]
  intro a _ b _
  exact (le_ans a b).symm
theorem ints_pl (n : Nat) (k : List Int) : D.pls (k.map D.int) n = true := pls_all fun d hd => by
  obtain ⟨i, _, rfl⟩ := List.mem_map.mp hd
  rfl
theorem ans_pl (k : List Int) (n : Nat) : (ans k).pl (n + 1) = true := ints_pl n k
theorem ans_alike : ∀ (a b : List Int), PySem.W.alike (ans a).py (ans b).py = true := by
  have gen : ∀ (a b : List Int), PySem.W.alikeAll (D.pys (a.map D.int)) (D.pys (b.map D.int)) = true := by
    intro a
    induction a with
    | nil => intro b; cases b <;> simp [D.pys, PySem.W.alikeAll]
    | cons x a ih =>
      intro b
      cases b with
      | nil => simp [D.pys, PySem.W.alikeAll]
      | cons y b => simp only [List.map_cons, D.pys, D.py, PySem.W.alikeAll, PySem.W.alike, ih b]; rfl
  intro a b
  exact gen a b
theorem sortOk_ans {ks : List (List Int)} (h : ks.length ≤ sizeLine) : SortOk (ks.map ans) := by
  refine ⟨by rw [List.length_map]; exact h, ?_, ?_, .inl ?_⟩
  · intro x hx; obtain ⟨k, _, rfl⟩ := List.mem_map.mp hx; exact ans_pl k 49
  · intro x hx y hy
    obtain ⟨k, _, rfl⟩ := List.mem_map.mp hx
    obtain ⟨j, _, rfl⟩ := List.mem_map.mp hy
    exact ans_alike k j
  · intro x hx; obtain ⟨k, _, rfl⟩ := List.mem_map.mp hx; exact ⟨_, rfl⟩
theorem kv_keys (m : List (List Int × Rat)) : (kvD m).map (·.1) = (m.map (·.1)).map ans := by
  unfold kvD
  rw [List.map_map, List.map_map]
  rfl
theorem sorted_kv {m : List (List Int × Rat)} (h : m.length ≤ sizeLine) (t : Bool) : dSorted (.dct t (kvD m)) = .ok (.lst ((sortK (m.map (·.1))).map ans)) := by
  unfold dSorted D.items
  dsimp only
  rw [kv_keys, if_pos (sortOk_ans (by rw [List.length_map]; exact h)), sortD_ans]
/-! ### comprehensions -/
theorem comp_filter {e : DL.Env} {p : Pat} {ft : DL.Env → Res Bool} {fe : DL.Env → Res D} (b : D → Bool) (g : D → D) : ∀ {ds : List D}, (∀ d ∈ ds, ∃ e1, p.bind d e = .ok e1 ∧ ft e1 = .ok (b d) ∧ (b d = true → fe e1 = .ok (g d))) → compL e p ft fe ds = .ok ((ds.filter b).map g)
  | [], _ => rfl
  | d :: ds, h => by
    obtain ⟨e1, h1, h2, h3⟩ := h d List.mem_cons_self
    have ih := comp_filter b g (ds := ds) fun x hx => h x (List.mem_cons_of_mem _ hx)
    unfold compL
    rw [h1]
    dsimp only
    rw [h2]
    cases hb : b d with
    | true =>
      dsimp only
      rw [h3 hb]
      dsimp only
      rw [ih, List.filter_cons, if_pos hb]
      rfl
    | false =>
      dsimp only
      rw [ih, List.filter_cons, if_neg (by rw [hb]; decide)]
theorem comp_all {e : DL.Env} {p : Pat} {ft : DL.Env → Res Bool} {fe : DL.Env → Res D} (g : D → D) {ds : List D} (h : ∀ d ∈ ds, ∃ e1, p.bind d e = .ok e1 ∧ ft e1 = .ok true ∧ fe e1 = .ok (g d)) : compL e p ft fe ds = .ok (ds.map g) := by
  have := comp_filter (e := e) (p := p) (ft := ft) (fe := fe) (fun _ => true) g (ds := ds) fun d hd => by
    obtain ⟨e1, a, b, c⟩ := h d hd
    exact ⟨e1, a, b, fun _ => c⟩
  rw [this, List.filter_eq_self.mpr (fun _ _ => rfl)]
/-! ### spreads -/
def spPairD (p : List Int × Rat) : D := .tup [ans p.1, shr p.2]
def sprD (l : List (List Int × Rat)) : D := .tup (l.map spPairD)
/-- what putting together makes -/
def mkSpr (ps : List (List Int × Rat)) : List (List Int × Rat) := ((sortK ((ps.foldl stepR []).map (·.1))).filter fun k => decide (totR ps k ≠ 0)).map fun k => (k, totR ps k)
theorem mkSpr_is {ps : List (List Int × Rat)} {L : List (List Int)} (hr : L.Pairwise (fun x y => lexB x y = true)) (hm : ∀ k, k ∈ L ↔ k ∈ ps.map (·.1) ∧ totR ps k ≠ 0) : mkSpr ps = L.map fun k => (k, totR ps k) := by
  unfold mkSpr
  congr 1
  have S := SumsOf.all ps SumsOf.nil
  rw [List.nil_append] at S
  refine rise_ext ((sortK_rise S.nd).filter _) hr fun k => ?_
  rw [List.mem_filter, sortK_mem, S.ks, hm]
  simp
/-! ### dicts, step by step -/
@[simp] theorem ownD_app (i : Nat) (e : DL.Env) (k : Bool → List (D × D) → Out) : ownD i e k = (match e[i]? with | some (some (.dct t kvs, true)) => k t kvs | _ => .bad) := Eq.trans rfl rfl
@[simp] theorem sPutD_app (al : List Nat) (i : Nat) (fk fv : DL.Env → Res D) (e : DL.Env) : sPutD al i fk fv e = ownD i (fz al e) fun t kvs => sE al (fun e => (fv e).bind fun v => (fk e).bind fun k => .ok (k, v)) (fun kv e' =>
  if D.keyOk t kv.1 = true ∧ kvs.length < sizeLine then .nx (e'.set i (some (.dct t (dSet kvs kv.1 kv.2), true))) else .bad) e := Eq.trans rfl rfl
@[simp] theorem eGet2_app (fa fb fc : DL.Env → Res D) (e : DL.Env) : eGet2 fa fb fc e = (fa e).bind fun d => match d with
  | .dct t kvs => (fb e).bind fun k => (fc e).bind fun x => dGet2 (.dct t kvs) k x
  | _ => .bad := Eq.trans rfl rfl
@[simp] theorem eDNew_app (t : Bool) (e : DL.Env) : eDNew t e = .ok (.dct t []) := Eq.trans rfl rfl
theorem get2_kv (m : List (List Int × Rat)) (k : List Int) (x : Rat) : dGet2 (.dct true (kvD m)) (ans k) (shr x) = .ok (shr ((getR m k).getD x)) := by
  unfold dGet2
  dsimp only
  rw [if_pos (ans_key k), find_kv]
  cases getR m k <;> rfl
theorem at_kv {m : List (List Int × Rat)} {k : List Int} {x : Rat} (h : getR m k = some x) : dAt (.dct true (kvD m)) (ans k) = .ok (shr x) := by
  unfold dAt
  dsimp only
  rw [if_pos (ans_key k), find_kv, h]
  rfl
theorem kv_len (m : List (List Int × Rat)) : (kvD m).length = m.length := by unfold kvD; rw [List.length_map]
theorem tot_mem : ∀ {ps : List (List Int × Rat)} {p : List Int × Rat}, (ps.map (·.1)).Nodup → p ∈ ps → totR ps p.1 = p.2 := by
  have keep : ∀ (ps : List (List Int × Rat)) (k : List Int) (t : Rat), k ∉ ps.map (·.1) → ps.foldl (fun t p => if p.1 = k then t + p.2 else t) t = t := by
    intro ps
    induction ps with
    | nil => intro k t _; rfl
    | cons p ps ih =>
      intro k t h
      rw [List.map_cons, List.mem_cons] at h
      rw [List.foldl_cons, if_neg (fun z => h (.inl z.symm))]
      exact ih k t fun z => h (.inr z)
  have gen : ∀ (ps : List (List Int × Rat)) (p : List Int × Rat) (t : Rat), (ps.map (·.1)).Nodup → p ∈ ps → ps.foldl (fun t q => if q.1 = p.1 then t + q.2 else t) t = t + p.2 := by
    intro ps
    induction ps with
    | nil => intro p t _ h; cases h
    | cons q ps ih =>
      intro p t hn h
      rw [List.map_cons, List.nodup_cons] at hn
      rw [List.foldl_cons]
      rw [List.mem_cons] at h
      rcases h with h | h
      · subst h
        rw [if_pos rfl, keep _ _ _ hn.1]
      · have ne : q.1 ≠ p.1 := fun z => hn.1 (z ▸ List.mem_map.mpr ⟨p, h, rfl⟩)
        rw [if_neg ne]
        exact ih p t hn.2 h
  intro ps p hn h
  unfold totR
  rw [gen ps p 0 hn h, Rat.zero_add]
theorem rise_nodup {ks : List (List Int)} (h : ks.Pairwise (fun x y => lexB x y = true)) : ks.Nodup := h.imp fun {a b} z e => by
  subst e
  rw [lexB_irr] at z; cases z
/-- pairs that rise already stay as they are -/
theorem mkSpr_self {ps : List (List Int × Rat)} (h : (ps.map (·.1)).Pairwise (fun x y => lexB x y = true)) (h0 : ∀ p ∈ ps, p.2 ≠ 0) : mkSpr ps = ps := by
  have nd := rise_nodup h
  rw [mkSpr_is h fun k => ?_, List.map_map]
  · conv => rhs; rw [← List.map_id ps]
    apply List.map_congr_left
    intro p hp
    show (p.1, totR ps p.1) = p
    rw [tot_mem nd hp]
  · constructor
    · intro hk
      obtain ⟨p, hp, rfl⟩ := List.mem_map.mp hk
      refine ⟨hk, ?_⟩
      rw [tot_mem nd hp]
      exact h0 p hp
    · exact fun z => z.1
theorem sumR_snoc (l : List Rat) (x : Rat) : sumR (l ++ [x]) = sumR l + x := by
  unfold sumR
  rw [List.foldl_append]
  rfl
theorem smr_pow {n m : Nat} {x : Rat} (h : SmR n m x) (k : Nat) : SmR (n * k + 1) (m * k + 1) (x ^ k) := by
  refine ⟨?_, ?_⟩
  · rw [Rat.num_pow]; exact h.1.pow k
  · rw [Rat.den_pow, Int.natCast_pow]; exact h.2.pow k
theorem rangeD_prog (i j : Int) : rangeD i j = prog3 i 1 (j - i).toNat := by
  unfold rangeD prog3
  apply List.map_congr_left
  intro k _
  rw [Int.mul_one]
theorem shr_of (a : Int) (b : Nat) (hb : b ≠ 0) : Rat.divInt a b = (a : Rat) / (b : Rat) := by
  rw [Rat.divInt_eq_div, Rat.intCast_natCast]
/-! ### falling shares come to one -/
/-- the share at place i of a window with d + 1 places, falling from place a -/
def fallAt (r : Rat) (a d i : Nat) : Rat := (if i = 0 ∨ i = d then 1 / (1 + r) else (1 - r) / (1 + r)) * r ^ ((i - a) + (a - i))
theorem fall_pre {r : Rat} (hr : 0 < r) {a d : Nat} (had : a ≤ d) : ∀ k, k < d → sumR ((List.range (k + 1)).map (fallAt r a d)) = if k ≤ a then r ^ (a - k) * (1 / (1 + r)) else 1 - r ^ (k + 1 - a) * (1 / (1 + r)) := by
  have h1 : (1 + r) ≠ 0 := by grind
  intro k
  induction k with
  | zero =>
    intro hk
    have e1 : sumR ((List.range (0 + 1)).map (fallAt r a d)) = 0 + fallAt r a d 0 := rfl
    rw [e1, Rat.zero_add, if_pos (Nat.zero_le _)]
    unfold fallAt
    rw [if_pos (.inl rfl), Nat.zero_sub, Nat.zero_add, Nat.sub_zero, Rat.mul_comm]
  | succ k ih =>
    intro hk
    rw [List.range_succ, List.map_append, show List.map (fallAt r a d) [k + 1] = [fallAt r a d (k + 1)] from rfl, sumR_snoc, ih (by omega)]
    unfold fallAt
    rw [if_neg (show ¬ (k + 1 = 0 ∨ k + 1 = d) by omega)]
    by_cases h : k + 1 ≤ a
    · rw [if_pos (by omega), if_pos h, show (k + 1 - a) + (a - (k + 1)) = a - (k + 1) by omega, show a - k = a - (k + 1) + 1 by omega, Rat.pow_succ]
      grind
    · rw [if_neg h]
      by_cases h2 : k ≤ a
      · have hka : k = a := by omega
        subst hka
        rw [if_pos (Nat.le_refl _), Nat.sub_self, show (k + 1 - k) + (k - (k + 1)) = 1 by omega, show k + 1 + 1 - k = 2 by omega, Rat.pow_zero]
        have e2 : r ^ 2 = r * r := by rw [Rat.pow_succ, Rat.pow_succ, Rat.pow_zero, Rat.one_mul]
        have e3 : r ^ 1 = r := by rw [Rat.pow_succ, Rat.pow_zero, Rat.one_mul]
        rw [e2, e3]
        grind
      · rw [if_neg h2, show (k + 1 - a) + (a - (k + 1)) = k + 1 - a by omega, show k + 1 + 1 - a = k + 1 - a + 1 by omega, Rat.pow_succ]
        grind
theorem fall_one {r : Rat} (hr : 0 < r) {a d : Nat} (had : a ≤ d) (hd : 0 < d) : sumR ((List.range (d + 1)).map (fallAt r a d)) = 1 := by
  have h1 : (1 + r) ≠ 0 := by grind
  obtain ⟨k, rfl⟩ : ∃ k, d = k + 1 := ⟨d - 1, by omega⟩
  rw [List.range_succ, List.map_append, show List.map (fallAt r a (k + 1)) [k + 1] = [fallAt r a (k + 1) (k + 1)] from rfl, sumR_snoc, fall_pre hr had k (by omega)]
  unfold fallAt
  rw [if_pos (show k + 1 = 0 ∨ k + 1 = k + 1 from .inr rfl)]
  by_cases h : k + 1 = a
  · subst h
    rw [if_pos (by omega), show (k + 1 - (k + 1)) + (k + 1 - (k + 1)) = 0 by omega, show k + 1 - k = 1 by omega, Rat.pow_zero]
    have e3 : r ^ 1 = r := by rw [Rat.pow_succ, Rat.pow_zero, Rat.one_mul]
    rw [e3]
    grind
  · by_cases h2 : k ≤ a
    · have hka : k = a := by omega
      subst hka
      rw [if_pos (Nat.le_refl _), Nat.sub_self, show (k + 1 - k) + (k - (k + 1)) = 1 by omega, Rat.pow_zero]
      have e3 : r ^ 1 = r := by rw [Rat.pow_succ, Rat.pow_zero, Rat.one_mul]
      rw [e3]
      grind
    · rw [if_neg h2, show (k + 1 - a) + (a - (k + 1)) = k + 1 - a by omega]
      grind
theorem rat_pow_pos {r : Rat} (h : 0 < r) : ∀ k : Nat, 0 < r ^ k
  | 0 => by rw [Rat.pow_zero]; decide
  | k + 1 => by rw [Rat.pow_succ]; exact Rat.mul_pos (rat_pow_pos h k) h
theorem fall_pos {r : Rat} (hr : 0 < r) (h1 : r < 1) (a d i : Nat) : 0 < fallAt r a d i := by
  unfold fallAt
  have hp : 0 < 1 + r := by grind
  refine Rat.mul_pos ?_ (rat_pow_pos hr _)
  have iv : 0 < (1 + r)⁻¹ := Rat.inv_pos.mpr hp
  split
  · rw [Rat.div_def, Rat.one_mul]; exact iv
  · rw [Rat.div_def]
    exact Rat.mul_pos (by grind) iv
@[simp] theorem sPutL_app (al : List Nat) (i : Nat) (fk fv : DL.Env → Res D) (e : DL.Env) : sPutL al i fk fv e = ownL i (fz al e) fun xs => sE al (fun e => (fv e).bind fun v => (fk e).bind fun k => .ok (k, v)) (fun kv e' => match kv.1 with
  | .int k => match ixN xs.length k with
    | some j => .nx (e'.set i (some (.lst (xs.set j kv.2), true)))
    | none => .bad
  | _ => .bad) e := Eq.trans rfl rfl
theorem ixN_nat {n j : Nat} (h : j < n) : ixN n (j : Int) = some j := by
  simp [ixN, h]
/-- a list over places, one changed -/
theorem over_set {f : Nat → D} {n t : Nat} {x : D} (h : t < n) : ((List.range n).map f).set t x = (List.range n).map fun j => if j = t then x else f j := by
  apply List.ext_getElem
  · simp
  · intro j h1 h2
    simp [List.getElem_set]
    by_cases e : t = j
    · subst e; simp
    · rw [if_neg e, if_neg (fun z => e z.symm)]
theorem over_get {f : Nat → D} {n t : Nat} (h : t < n) : ((List.range n).map f)[t]? = some (f t) := by
  simp [h]
@[simp] theorem bind_sp (ps : List Pat) (p : List Int × Rat) (e : DL.Env) : Pat.bind (.tp ps) (spPairD p) e = Pat.binds ps [ans p.1, shr p.2] e := Eq.trans rfl rfl
@[simp] theorem sp_0 (p : List Int × Rat) : dIx (spPairD p) (.int 0) = .ok (ans p.1) := dIx_tup0 _ _
@[simp] theorem sp_1 (p : List Int × Rat) : dIx (spPairD p) (.int 1) = .ok (shr p.2) := dIx_tup1 _ _ _
@[simp] theorem ans_0 (a : Int) (r : List Int) : dIx (ans (a :: r)) (.int 0) = .ok (.int a) := dIx_tup0 _ _
theorem ints_of : ∀ ns : List Int, D.ints (ns.map D.int) = some ns
  | [] => rfl
  | n :: r => by show (D.ints (r.map D.int)).map _ = _; rw [ints_of r]; rfl
@[simp] theorem dSum_ints (ns : List Int) : dSum (.lst (ns.map D.int)) = .ok (.int ns.sum) := by
  show (match D.ints (ns.map D.int) with | some ns => Res.ok (D.int ns.sum) | none => .bad) = _
  rw [ints_of]
/-- places and numbers -/
def natL (ws : List Nat) : List D := ws.map fun (w : Nat) => D.int (w : Int)
theorem natL_ints (ws : List Nat) : natL ws = (ws.map fun (w : Nat) => (w : Int)).map D.int := by
  unfold natL
  rw [List.map_map]; rfl
theorem nat_sum : ∀ ws : List Nat, (ws.map fun (w : Nat) => (w : Int)).sum = ((ws.sum : Nat) : Int)
  | [] => rfl
  | w :: r => by rw [List.map_cons, List.sum_cons, List.sum_cons, nat_sum r, Int.natCast_add]
@[simp] theorem dSum_nats (ws : List Nat) : dSum (.lst (natL ws)) = .ok (.int (ws.sum : Nat)) := by
  rw [natL_ints, dSum_ints, nat_sum]
theorem iEnum_app (f : DL.Env → Res D) (e : DL.Env) : DL.iEnum f e = (f e).bind fun x => match seqOf x with
  | some xs => .ok (enumT 0 xs)
  | none => .bad := rfl
/-- one turn that goes on -/
theorem turns_one {p : Pat} {body : DL.Env → Out} {d : D} {r : List D} {e e1 e2 : DL.Env} {R : Out} (hb : p.bind d e = .ok e1) (hs : body e1 = .nx e2) (hr : turns p body r e2 = R) : turns p body (d :: r) e = R := by
  unfold turns
  rw [hb]
  dsimp only
  rw [hs]
  exact hr
theorem turns_nil (p : Pat) (body : DL.Env → Out) (e : DL.Env) : turns p body [] e = .nx e := rfl
theorem seq_nx {g h : DL.Env → Out} {e e1 : DL.Env} {R : Out} (a : g e = .nx e1) (b : h e1 = R) : sSeq g h e = R := by
  rw [sSeq_app, a]
  exact b
theorem set_ok {i : Nat} {f : DL.Env → Res D} {e : DL.Env} {d : D} (h : f e = .ok d) : sSet [] i f e = .nx (e.set i (some (d, false))) := by
  rw [sSet_app, h]
  rfl
theorem setF_ok {i : Nat} {f : DL.Env → Res D} {e : DL.Env} {d : D} (h : f e = .ok d) : sSetF [] i f e = .nx (e.set i (some (d, true))) := by
  rw [sSetF_app, h]
  rfl
theorem set_al {al : List Nat} {i : Nat} {f : DL.Env → Res D} {e e1 : DL.Env} {d : D} (h : f e = .ok d) (h1 : (fz al e).set i (some (d, false)) = e1) : sSet al i f e = .nx e1 := by
  rw [sSet_app, h, ← h1]
theorem asg_ok {p : Pat} {f : DL.Env → Res D} {e e1 : DL.Env} {d : D} (h : f e = .ok d) (hb : p.bind d e = .ok e1) : sAsg [] p f e = .nx e1 := by
  rw [sAsg_app, h]
  show (match p.bind d e with | .ok e' => Out.nx e' | _ => .bad) = _
  rw [hb]
theorem for_nx {al : List Nat} {p : Pat} {fi : DL.Env → Res (List D)} {b : DL.Env → Out} {e : DL.Env} {ds : List D} {R : Out} (h : fi e = .ok ds) (ht : turns p b ds (fz al e) = R) : sFor al p fi b e = R := by
  rw [sFor_app, h]
  exact ht
theorem if_no {ft : DL.Env → Res Bool} {g h : DL.Env → Out} {e : DL.Env} {R : Out} (hb : ft e = .ok false) (hr : h e = R) : sIf [] ft g h e = R := by
  rw [sIf_app, hb]
  exact hr
theorem if_yes {ft : DL.Env → Res Bool} {g h : DL.Env → Out} {e : DL.Env} {R : Out} (hb : ft e = .ok true) (hr : g e = R) : sIf [] ft g h e = R := by
  rw [sIf_app, hb]
  exact hr
theorem ret_ok {al : List Nat} {f : DL.Env → Res D} {e : DL.Env} {d : D} {h : DL.Env → Out} (hf : f e = .ok d) : sSeq (sRet al f) h e = .rt d := by
  rw [sSeq_app, sRet_app, hf]
theorem seq_rt {g h : DL.Env → Out} {e : DL.Env} {d : D} (a : g e = .rt d) : sSeq g h e = .rt d := by
  rw [sSeq_app, a]
theorem mut_ok {al : List Nat} {i : Nat} {gm : List D → List D → Option (List D)} {fs : DL.Env → Res (List D)} {e e1 : DL.Env} {xs ys ds : List D} (hi : (fz al e)[i]? = some (some (.lst xs, true))) (hf : fs e = .ok ds) (hg : gm xs ds = some ys) (h1 : (fz al e).set i (some (.lst ys, true)) = e1) : sMut al i gm fs e = .nx e1 := by
  rw [sMut_app, ownL_app, hi]
  dsimp only
  rw [sE_app, hf]
  dsimp only
  rw [hg, ← h1]
theorem dIx_last (xs : List D) (d : D) : dIx (.lst (xs ++ [d])) (.int (-1)) = .ok d := by
  have e : ixN (xs.length + 1) (-1) = some xs.length := by
    unfold ixN
    rw [if_neg (by decide), if_pos (by omega)]
    congr 1
    omega
  simp [dIx, atI, e]
end DL

/-! dicts of any keys, plainly -/
namespace DL
open PySem PySem.Spec PyProof.Rows L2
open PySem.Builtin.Int (intBits)
section
variable {α β : Type} [DecidableEq α] {f : α → D} {g : β → D}
def kvG (f : α → D) (g : β → D) (m : List (α × β)) : List (D × D) := m.map fun p => (f p.1, g p.2)
def getG (m : List (α × β)) (k : α) : Option β := (m.find? fun p => decide (p.1 = k)).map (·.2)
def putG (m : List (α × β)) (k : α) (x : β) : List (α × β) := if (m.any fun p => decide (p.1 = k)) = true then m.map (fun p => if p.1 = k then (p.1, x) else p) else m ++ [(k, x)]
theorem find_kvG (hf : ∀ a b, f a = f b → a = b) (m : List (α × β)) (k : α) : dFind (kvG f g m) (f k) = (getG m k).map g := by
  unfold dFind getG kvG
  induction m with
  | nil => rfl
  | cons p m ih =>
    rw [List.map_cons, List.find?_cons, List.find?_cons]
    by_cases h : p.1 = k
    · have h1 : f p.1 = f k := by rw [h]
      simp [h, h1]
    · have h2 : f p.1 ≠ f k := fun z => h (hf _ _ z)
      simp only [h, h2, decide_false]
      exact ih
theorem set_kvG (hf : ∀ a b, f a = f b → a = b) (m : List (α × β)) (k : α) (x : β) : dSet (kvG f g m) (f k) (g x) = kvG f g (putG m k x) := by
  unfold dSet putG
  have e : ((kvG f g m).any fun p => @decide (p.1 = f k) (Classical.propDecidable _)) = m.any fun p => decide (p.1 = k) := by
    unfold kvG
    rw [List.any_map]
    congr 1
    funext p
    simp only [Function.comp]
    by_cases h : p.1 = k
    · simp [h]
    · have h2 : f p.1 ≠ f k := fun z => h (hf _ _ z)
      simp [h, h2]
  rw [e]
  split
  · unfold kvG
    rw [List.map_map, List.map_map]
    apply List.map_congr_left
    intro p _
    by_cases h : p.1 = k
    · simp [h]
    · have h2 : f p.1 ≠ f k := fun z => h (hf _ _ z)
      simp [h, h2]
  · simp [kvG]
theorem any_keyG {m : List (α × β)} {k : α} : (m.any fun p => decide (p.1 = k)) = true ↔ k ∈ m.map (·.1) := by
  rw [List.any_eq_true, List.mem_map]
  constructor
  · rintro ⟨p, h, e⟩; exact ⟨p, h, by simpa using e⟩
  · rintro ⟨p, h, e⟩; exact ⟨p, h, by simpa using e⟩
theorem put_keysG (m : List (α × β)) (k : α) (x : β) : (putG m k x).map (·.1) = if k ∈ m.map (·.1) then m.map (·.1) else m.map (·.1) ++ [k] := by
  unfold putG
  by_cases h : k ∈ m.map (·.1)
  · rw [if_pos (any_keyG.mpr h), if_pos h, List.map_map]
    apply List.map_congr_left
    intro p _
    show (if p.1 = k then (p.1, x) else p).1 = p.1
    split <;> rfl
  · rw [if_neg (fun z => h (any_keyG.mp z)), if_neg h, List.map_append]; rfl
theorem get_someG {m : List (α × β)} {k : α} : (getG m k).isSome = true ↔ k ∈ m.map (·.1) := by
  unfold getG
  rw [Option.isSome_map, List.find?_isSome, List.mem_map]
  constructor
  · rintro ⟨p, h, e⟩; exact ⟨p, h, by simpa using e⟩
  · rintro ⟨p, h, e⟩; exact ⟨p, h, by simpa using e⟩
theorem get_noneG {m : List (α × β)} {k : α} (h : k ∉ m.map (·.1)) : getG m k = none := by
  cases e : getG m k with
  | none => rfl
  | some x => exact absurd (get_someG.mp (by rw [e]; rfl)) h
theorem put_get_selfG (m : List (α × β)) (k : α) (x : β) : getG (putG m k x) k = some x := by
  unfold putG
  split
  · rename_i h
    induction m with
    | nil => simp at h
    | cons p m ih =>
      unfold getG
      rw [List.map_cons, List.find?_cons]
      by_cases hp : p.1 = k
      · simp [hp]
      · simp only [if_neg hp, decide_eq_false hp]
        have h' : (m.any fun p => decide (p.1 = k)) = true := by simpa [hp] using h
        exact ih h'
  · rename_i h
    unfold getG
    rw [List.find?_append]
    have : m.find? (fun p => decide (p.1 = k)) = none := by
      cases e : m.find? (fun p => decide (p.1 = k)) with
      | none => rfl
      | some p =>
        exfalso
        apply h
        rw [List.any_eq_true]
        exact ⟨p, List.mem_of_find?_eq_some e, List.find?_some (p := fun p : α × β => decide (p.1 = k)) e⟩
    rw [this]
    simp
theorem put_get_neG {m : List (α × β)} {k j : α} (x : β) (h : j ≠ k) : getG (putG m k x) j = getG m j := by
  unfold putG
  split
  · induction m with
    | nil => rfl
    | cons p m ih =>
      unfold getG at *
      rw [List.map_cons, List.find?_cons, List.find?_cons]
      by_cases hp : p.1 = k
      · have hj : p.1 ≠ j := fun z => h (by rw [← z, hp])
        simp only [if_pos hp, decide_eq_false hj]
        rename_i hh
        by_cases h3 : (m.any fun p => decide (p.1 = k)) = true
        · exact ih h3
        · have : m.map (fun p => if p.1 = k then (p.1, x) else p) = m := by
            conv => rhs; rw [← List.map_id m]
            apply List.map_congr_left
            intro q hq
            rw [if_neg]
            · rfl
            · intro z
              apply h3
              rw [List.any_eq_true]
              exact ⟨q, hq, by simpa using z⟩
          rw [this]
      · simp only [if_neg hp]
        by_cases hj : p.1 = j
        · simp [hj]
        · simp only [decide_eq_false hj]
          rename_i hh
          exact ih (by simpa [hp] using hh)
  · unfold getG
    rw [List.find?_append]
    cases m.find? (fun p => decide (p.1 = j)) with
    | some p => rfl
    | none => simp [Ne.symm h]

theorem get2_kvG (hf : ∀ a b, f a = f b → a = b) {t : Bool} (m : List (α × β)) (k : α) (x : β) (hk : D.keyOk t (f k) = true) : dGet2 (.dct t (kvG f g m)) (f k) (g x) = .ok (g ((getG m k).getD x)) := by
  unfold dGet2
  dsimp only
  rw [if_pos hk, find_kvG hf]
  cases getG m k <;> rfl
theorem at_kvG (hf : ∀ a b, f a = f b → a = b) {t : Bool} {m : List (α × β)} {k : α} {x : β} (hk : D.keyOk t (f k) = true) (h : getG m k = some x) : dAt (.dct t (kvG f g m)) (f k) = .ok (g x) := by
  unfold dAt
  dsimp only
  rw [if_pos hk, find_kvG hf, h]
  rfl
theorem kvG_len (m : List (α × β)) : (kvG f g m).length = m.length := by unfold kvG; rw [List.length_map]
theorem putG_len (m : List (α × β)) (k : α) (x : β) : (putG m k x).length ≤ m.length + 1 := by
  have e := congrArg List.length (put_keysG m k x)
  rw [List.length_map] at e
  rw [e]
  split
  · rw [List.length_map]; omega
  · rw [List.length_append, List.length_map]; exact Nat.le_refl _
end
/-- so many times each -/
def bumpG {α : Type} [DecidableEq α] (m : List (α × Nat)) (k : α) : List (α × Nat) := putG m k ((getG m k).getD 0 + 1)
def timesG {α : Type} [DecidableEq α] (k : α) (l : List α) : Nat := (l.filter fun x => decide (x = k)).length
structure CountsOf {α : Type} [DecidableEq α] (m : List (α × Nat)) (l : List α) : Prop where
  nd : (m.map (·.1)).Nodup
  ks : ∀ k, k ∈ m.map (·.1) ↔ k ∈ l
  gt : ∀ k, (getG m k).getD 0 = timesG k l
  sm : ∀ k, k ∈ l → getG m k = some (timesG k l)
  ln : m.length ≤ l.length
theorem CountsOf.nil {α : Type} [DecidableEq α] : CountsOf ([] : List (α × Nat)) [] := ⟨List.nodup_nil, fun k => Iff.rfl, fun k => rfl, fun k h => absurd h List.not_mem_nil, Nat.le_refl _⟩
theorem timesG_snoc {α : Type} [DecidableEq α] (k x : α) (l : List α) : timesG k (l ++ [x]) = timesG k l + if x = k then 1 else 0 := by
  unfold timesG
  rw [List.filter_append, List.length_append]
  by_cases h : x = k
  · simp [h]
  · simp [h]
theorem CountsOf.step {α : Type} [DecidableEq α] {m : List (α × Nat)} {l : List α} (S : CountsOf m l) (x : α) : CountsOf (bumpG m x) (l ++ [x]) := by
  have hk := put_keysG m x ((getG m x).getD 0 + 1)
  have g1 : ∀ k, getG (bumpG m x) k = if x = k then some (timesG k l + 1) else getG m k := fun k => by
    unfold bumpG
    by_cases e : x = k
    · subst e
      rw [put_get_selfG, if_pos rfl, S.gt]
    · rw [put_get_neG _ (Ne.symm e), if_neg e]
  refine ⟨?_, fun k => ?_, fun k => ?_, fun k h => ?_, ?_⟩
  · unfold bumpG
    rw [hk]
    split
    · exact S.nd
    · rename_i h
      rw [List.nodup_append]
      refine ⟨S.nd, by simp, ?_⟩
      intro a ha b hb
      rw [List.mem_singleton] at hb
      subst hb
      intro e
      subst e
      exact h ha
  · unfold bumpG
    rw [hk, List.mem_append, List.mem_singleton, ← S.ks k]
    split
    · rename_i h
      exact ⟨.inl, fun z => z.elim id fun e => e ▸ h⟩
    · rw [List.mem_append, List.mem_singleton]
  · rw [g1, timesG_snoc]
    split
    · rfl
    · rw [S.gt]; rfl
  · rw [g1, timesG_snoc]
    split
    · rfl
    · rename_i e
      rw [List.mem_append, List.mem_singleton] at h
      rw [S.sm k (h.resolve_right fun z => e z.symm)]
      rfl
  · have := putG_len m x ((getG m x).getD 0 + 1)
    have l' := S.ln
    rw [List.length_append]
    show (putG m x _).length ≤ l.length + 1
    omega
theorem timesG_pos {α : Type} [DecidableEq α] {k : α} {l : List α} : 0 < timesG k l ↔ k ∈ l := by
  unfold timesG
  rw [List.length_pos_iff_exists_mem]
  constructor
  · rintro ⟨a, h⟩
    rw [List.mem_filter] at h
    have e : a = k := by simpa using h.2
    exact e ▸ h.1
  · intro h
    exact ⟨k, List.mem_filter.mpr ⟨h, by simp⟩⟩
/-! ### sorted numbers -/
theorem int_inj (a b : Int) (h : D.int a = D.int b) : a = b := by injection h
theorem lt_int (a b : Int) : D.lt (.int a) (.int b) = decide (a < b) := by
  show PyProof.Rows.lexLt itemOrd [.inl a] [.inl b] = _
  rw [PyProof.Rows.lex_cons]
  show (decide (a < b) || (!decide (b < a) && false)) = _
  simp
theorem le_int (a b : Int) : D.le (.int a) (.int b) = decide (a ≤ b) := by
  unfold D.le
  rw [lt_int]
  by_cases h : a ≤ b
  · rw [decide_eq_true h, decide_eq_false (by omega)]; rfl
  · rw [decide_eq_false h, decide_eq_true (by omega)]; rfl
theorem sortOk_int {ks : List Int} (h : ks.length ≤ sizeLine) : SortOk (ks.map D.int) := by
  refine ⟨by rw [List.length_map]; exact h, ?_, ?_, .inr ?_⟩
  · intro x hx; obtain ⟨k, _, rfl⟩ := List.mem_map.mp hx; rfl
  · intro x hx y hy
    obtain ⟨k, _, rfl⟩ := List.mem_map.mp hx
    obtain ⟨j, _, rfl⟩ := List.mem_map.mp hy
    rfl
  · intro x hx
    obtain ⟨k, _, rfl⟩ := List.mem_map.mp hx
    exact ⟨by simp, by simp, by simp⟩
theorem sortD_int (ks : List Int) : sortD (ks.map D.int) = (ks.mergeSort fun a b => decide (a ≤ b)).map D.int := by
  unfold sortD
  rw [List.map_mergeSort]
  intro a _ b _
  exact (le_int a b).symm
theorem sort_id {ks : List Int} (h : ks.Pairwise (· ≤ ·)) : ks.mergeSort (fun a b => decide (a ≤ b)) = ks := List.mergeSort_of_pairwise (h.imp fun {a b} z => by simpa using z)
theorem sorted_ints {ks : List Int} (h : ks.length ≤ sizeLine) {d : D} (hd : d.items = some (ks.map D.int)) : dSorted d = .ok (.lst ((ks.mergeSort fun a b => decide (a ≤ b)).map D.int)) := by
  unfold dSorted
  rw [hd]
  dsimp only
  rw [if_pos (sortOk_int h), sortD_int]
end DL

/-! rows of numbers, plainly -/
namespace DL
open PySem PySem.Spec PyProof.Rows L2
open PySem.Builtin.Int (intBits)
theorem beq_ans (a b : List Int) : D.beq (ans a) (ans b) = decide (a = b) := by
  have gen : ∀ (a b : List Int), PyData.eqvAll (D.pys (a.map D.int)) (D.pys (b.map D.int)) = decide (a = b) := by
    intro a
    induction a with
    | nil => intro b; cases b <;> simp [D.pys, PyData.eqvAll]
    | cons x a ih =>
      intro b
      cases b with
      | nil => simp [D.pys, PyData.eqvAll]
      | cons y b =>
        simp only [List.map_cons, D.pys, D.py, PyData.eqvAll, ih b]
        show (PyData.eqv (.int x) (.int y) && decide (a = b)) = _
        have e : PyData.eqv (.int x) (.int y) = decide (x = y) := by
          simp [PyData.eqv]
          exact Bool.eq_iff_iff.mpr (by simp)
        rw [e]
        by_cases h1 : x = y <;> by_cases h2 : a = b <;> simp [h1, h2]
  show PyData.eqv (.tuple (D.pys (a.map D.int))) (.tuple (D.pys (b.map D.int))) = _
  rw [PyData.eqv]
  exact gen a b
theorem dEq_ans (a b : List Int) : dEq (ans a) (ans b) = .ok (.bl (decide (a = b))) := by
  show (if _ then _ else _) = _
  rw [if_pos ⟨ans_pl a 59, ans_pl b 59⟩, beq_ans]
theorem dNe_ans (a b : List Int) : dNe (ans a) (ans b) = .ok (.bl (!decide (a = b))) := by
  show (if _ then _ else _) = _
  rw [if_pos ⟨ans_pl a 59, ans_pl b 59⟩, beq_ans]
theorem dLt_ans (a b : List Int) : dLt (ans a) (ans b) = .ok (.bl (lexB a b)) := by
  show cmpD (fun x y => D.lt x y) (ans a) (ans b) = _
  unfold cmpD
  have c : D.cmpb (ans a) (ans b) = true := by
    unfold D.cmpb
    rw [ans_pl a 59, ans_pl b 59, ans_alike]
    rfl
  rw [if_pos c]
  show Res.ok (D.bl (D.lt (ans a) (ans b))) = _
  rw [lt_ans]
def rowsD (L : List (List Int)) : List D := L.map ans
theorem rows_pl (L : List (List Int)) (n : Nat) : D.pls (rowsD L) (n + 1) = true := pls_all fun d hd => by
  obtain ⟨k, _, rfl⟩ := List.mem_map.mp hd
  exact ans_pl k n
theorem has_rows (L : List (List Int)) (k : List Int) : D.has (rowsD L) (ans k) = decide (k ∈ L) := by
  unfold D.has rowsD
  rw [List.any_map]
  induction L with
  | nil => simp
  | cons r L ih =>
    rw [List.any_cons, ih]
    show (D.beq (ans r) (ans k) || _) = _
    rw [beq_ans]
    by_cases h : r = k
    · simp [h]
    · have h2 : ¬ k = r := fun z => h z.symm
      simp [h, h2]
theorem dInA_rows (no : Bool) (L : List (List Int)) (k : List Int) : dInA no (ans k) (.lst (rowsD L)) = .ok (.bl (decide (k ∈ L) != no)) := by
  show (if _ then _ else _) = _
  rw [if_pos ⟨ans_pl k 49, rows_pl L 49⟩, has_rows]
/-- without the first x -/
def rmv {α : Type} [DecidableEq α] (l : List α) (x : α) : List α := l.erase x
theorem rmv_head {α : Type} [DecidableEq α] (x : α) (l : List α) : rmv (x :: l) x = l := List.erase_cons_head ..
theorem rmv_tail {α : Type} [DecidableEq α] {x y : α} (l : List α) (h : y ≠ x) : rmv (y :: l) x = y :: rmv l x := List.erase_cons_tail (by simpa using h)
theorem remove_rows {L : List (List Int)} {k : List Int} (h : k ∈ L) : gRemove (rowsD L) [ans k] = some (rowsD (rmv L k)) := by
  show (if _ then _ else _) = _
  rw [if_pos ⟨ans_pl k 49, rows_pl L 49⟩]
  have gen : ∀ L : List (List Int), k ∈ L → ∃ j, (rowsD L).findIdx? (fun z => D.beq z (ans k)) = some j ∧ (rowsD L).eraseIdx j = rowsD (rmv L k) := by
    intro L
    induction L with
    | nil => intro h; cases h
    | cons r L ih =>
      intro h
      unfold rowsD at *
      rw [List.map_cons, List.findIdx?_cons, beq_ans]
      by_cases e : r = k
      · subst e
        refine ⟨0, by simp, ?_⟩
        rw [rmv_head]
        rfl
      · rw [List.mem_cons] at h
        obtain ⟨j, h1, h2⟩ := ih (h.resolve_left fun z => e z.symm)
        refine ⟨j + 1, by simp [e, h1], ?_⟩
        rw [List.eraseIdx_cons_succ, h2, rmv_tail _ e, List.map_cons]
  obtain ⟨j, h1, h2⟩ := gen L h
  rw [h1]
  dsimp only
  rw [h2]
theorem pickL_map {α β : Type} (f : α → β) (xs : List α) (lo hi st : Option Int) : pickL (xs.map f) lo hi st = (pickL xs lo hi st).map f := by
  unfold pickL
  rw [List.length_map]
  generalize sliceRange _ _ _ = l
  induction l with
  | nil => rfl
  | cons i l ih =>
    rw [List.filterMap_cons, List.filterMap_cons, List.getElem?_map]
    cases xs[i]? with
    | none => exact ih
    | some x => show f x :: _ = _; rw [ih]; rfl
theorem pickL_range {α : Type} (xs : List α) (lo hi st : Option Int) : (pickL xs lo hi st).length ≤ (sliceRange (sliceBounds lo hi st xs.length).1 (sliceBounds lo hi st xs.length).2.1 (sliceBounds lo hi st xs.length).2.2).length := by
  unfold pickL
  exact List.length_filterMap_le _ _
theorem pickL_mem {α : Type} {xs : List α} {lo hi st : Option Int} {x : α} (h : x ∈ pickL xs lo hi st) : x ∈ xs := by
  unfold pickL at h
  obtain ⟨i, _, hi⟩ := List.mem_filterMap.mp h
  exact List.mem_of_getElem? hi
/-! ### how many stand in the one and not in the other -/
section
variable {α : Type} [DecidableEq α]
def diffN : List α → List α → Nat
  | [], _ => 0
  | r :: S, T => if r ∈ T then diffN S (T.erase r) else 1 + diffN S T
theorem diffN_permR {T T' : List α} (p : T.Perm T') : ∀ S, diffN S T = diffN S T'
  | [] => rfl
  | r :: S => by
    rw [diffN, diffN]
    by_cases h : r ∈ T
    · rw [if_pos h, if_pos (p.mem_iff.mp h)]
      exact diffN_permR (p.erase r) S
    · rw [if_neg h, if_neg (fun z => h (p.mem_iff.mpr z)), diffN_permR p S]
  termination_by S => S.length
theorem diffN_nil : ∀ S : List α, diffN S [] = S.length
  | [] => rfl
  | r :: S => by rw [diffN, if_neg List.not_mem_nil, diffN_nil S, List.length_cons]; omega
theorem diffN_skip {r : α} : ∀ {S T : List α}, r ∉ S → diffN S (r :: T) = diffN S T
  | [], T, _ => rfl
  | s :: S, T, h => by
    rw [List.mem_cons] at h
    have hs : s ≠ r := fun z => h (.inl z.symm)
    have hr : r ∉ S := fun z => h (.inr z)
    rw [diffN, diffN]
    by_cases hm : s ∈ T
    · rw [if_pos (List.mem_cons_of_mem _ hm), if_pos hm, List.erase_cons_tail (by simpa using Ne.symm hs), diffN_skip hr]
    · rw [if_neg (by rw [List.mem_cons]; exact fun z => z.elim hs hm), if_neg hm, diffN_skip hr]
theorem diffN_sym : ∀ S T : List α, S.length + diffN T S = T.length + diffN S T
  | [], T => by rw [diffN_nil, diffN]; simp
  | r :: S, T => by
    rw [diffN]
    by_cases h : r ∈ T
    · have p := List.perm_cons_erase h
      have hl := p.length_eq
      rw [List.length_cons] at hl
      have e1 : diffN T (r :: S) = diffN (r :: T.erase r) (r :: S) := by
        have gen : ∀ {A B : List α}, A.Perm B → ∀ C, diffN A C = diffN B C := by
          intro A B p
          induction p with
          | nil => intro C; rfl
          | cons x _ ih =>
            intro C
            rw [diffN, diffN]
            split
            · exact ih _
            · rw [ih]
          | swap x y l =>
            intro C
            by_cases hxy : x = y
            · subst hxy; rfl
            · rw [diffN, diffN, diffN, diffN]
              have m1 : (x ∈ C.erase y) = (x ∈ C) := propext (List.mem_erase_of_ne hxy)
              have m2 : (y ∈ C.erase x) = (y ∈ C) := propext (List.mem_erase_of_ne (Ne.symm hxy))
              by_cases a : x ∈ C <;> by_cases b : y ∈ C <;> simp [a, b, m1, m2, diffN, List.erase_comm]
          | trans _ _ i1 i2 => intro C; rw [i1, i2]
        exact gen p _
      rw [if_pos h, e1, diffN, if_pos List.mem_cons_self, List.erase_cons_head, List.length_cons]
      have := diffN_sym S (T.erase r)
      omega
    · rw [if_neg h, diffN_skip h, List.length_cons]
      have := diffN_sym S T
      omega
theorem diffN_permL {S S' : List α} (p : S.Perm S') (T : List α) : diffN S T = diffN S' T := by
  have h1 := diffN_sym S T
  have h2 := diffN_sym S' T
  have h3 := diffN_permR p T
  have h4 := p.length_eq
  omega
theorem diffN_self : ∀ S : List α, diffN S S = 0
  | [] => rfl
  | r :: S => by rw [diffN, if_pos List.mem_cons_self, List.erase_cons_head, diffN_self S]
theorem diffN_erase {r : α} : ∀ (S C : List α), diffN S (C.erase r) ≤ 1 + diffN S C
  | [], _ => Nat.zero_le _
  | s :: S, C => by
    rw [diffN, diffN]
    by_cases h1 : s ∈ C.erase r
    · have h2 : s ∈ C := List.mem_of_mem_erase h1
      rw [if_pos h1, if_pos h2, List.erase_comm]
      exact diffN_erase S (C.erase s)
    · rw [if_neg h1]
      by_cases h2 : s ∈ C
      · rw [if_pos h2]
        have e : s = r := by
          by_cases e : s = r
          · exact e
          · exact absurd ((List.mem_erase_of_ne e).mpr h2) h1
        subst e
        exact Nat.le_refl _
      · rw [if_neg h2]
        have := diffN_erase (r := r) S C
        omega
theorem diffN_head (r : α) (S T : List α) : diffN (r :: S) (r :: T) = diffN S T := by rw [diffN, if_pos List.mem_cons_self, List.erase_cons_head]
theorem diffN_in {r : α} {S T : List α} (h : r ∈ T) : diffN (r :: S) T = diffN S (rmv T r) := by rw [diffN, if_pos h]; rfl
theorem diffN_out {r : α} {S T : List α} (h : r ∉ T) : diffN (r :: S) T = 1 + diffN S T := by rw [diffN, if_neg h]
theorem rmv_len {r : α} {T : List α} (h : r ∈ T) : T.length = (rmv T r).length + 1 := by
  have := (List.perm_cons_erase h).length_eq
  rw [List.length_cons] at this
  exact this
theorem diffN_tri : ∀ (A B C : List α), diffN A C ≤ diffN A B + diffN B C
  | [], _, _ => Nat.zero_le _
  | r :: A, B, C => by
    have up : diffN (r :: A) C ≤ 1 + diffN A C := by
      rw [diffN]
      split
      · exact diffN_erase A C
      · exact Nat.le_refl _
    by_cases hB : r ∈ B
    · have e1 : diffN (r :: A) B = diffN A (B.erase r) := by rw [diffN, if_pos hB]
      have e2 := diffN_permL (List.perm_cons_erase hB) C
      rw [e1, e2]
      by_cases hC : r ∈ C
      · rw [diffN, if_pos hC, diffN, if_pos hC]
        exact diffN_tri A (B.erase r) (C.erase r)
      · rw [diffN, if_neg hC, diffN, if_neg hC]
        have := diffN_tri A (B.erase r) C
        omega
    · have e1 : diffN (r :: A) B = 1 + diffN A B := by rw [diffN, if_neg hB]
      rw [e1]
      have := diffN_tri A B C
      omega
end
end DL

/-! rows of numbers, sorted -/
namespace DL
open PySem PySem.Spec PyProof.Rows L2
theorem leB_anti {a b : List Int} (h : leB a b = true) (k : leB b a = true) : a = b := by
  unfold leB at h k
  exact lexB_tri (by simpa using k) (by simpa using h)
theorem sortK_up (L : List (List Int)) : (sortK L).Pairwise (fun a b => leB a b = true) := List.pairwise_mergeSort (fun a b c h k => leB_trans a b c h k) (fun a b => leB_total a b) L
theorem sortK_perm (L : List (List Int)) : (sortK L).Perm L := List.mergeSort_perm L leB
theorem sortK_ext {L M : List (List Int)} (p : L.Perm M) : sortK L = sortK M :=
  List.Perm.eq_of_pairwise (le := fun a b => leB a b = true) (fun a b _ _ h k => leB_anti h k) (sortK_up L) (sortK_up M) (((sortK_perm L).trans p).trans (sortK_perm M).symm)
theorem sortK_id {L : List (List Int)} (h : L.Pairwise (fun a b => leB a b = true)) : sortK L = L :=
  List.Perm.eq_of_pairwise (le := fun a b => leB a b = true) (fun a b _ _ h k => leB_anti h k) (sortK_up L) h (sortK_perm L)
theorem sortK_two (L : List (List Int)) : sortK (sortK L) = sortK L := sortK_id (sortK_up L)
theorem sortK_len (L : List (List Int)) : (sortK L).length = L.length := (sortK_perm L).length_eq
theorem sorted_rows {L : List (List Int)} (h : L.length ≤ sizeLine) {d : D} (hd : d.items = some (rowsD L)) : dSorted d = .ok (.lst (rowsD (sortK L))) := by
  unfold dSorted
  rw [hd]
  dsimp only
  unfold rowsD
  rw [if_pos (sortOk_ans h), sortD_ans]
theorem eqvs_rows : ∀ (a b : List (List Int)), PyData.eqvAll (D.pys (rowsD a)) (D.pys (rowsD b)) = decide (a = b)
  | [], [] => by simp [rowsD, D.pys, PyData.eqvAll]
  | [], _ :: _ => by simp [rowsD, D.pys, PyData.eqvAll]
  | _ :: _, [] => by simp [rowsD, D.pys, PyData.eqvAll]
  | x :: a, y :: b => by
    have ih := eqvs_rows a b
    unfold rowsD at ih ⊢
    simp only [List.map_cons, D.pys, PyData.eqvAll, ih]
    have e : PyData.eqv (ans x).py (ans y).py = decide (x = y) := beq_ans x y
    rw [e]
    by_cases h1 : x = y <;> by_cases h2 : a = b <;> simp [h1, h2]
theorem beq_rows (a b : List (List Int)) : D.beq (.lst (rowsD a)) (.lst (rowsD b)) = decide (a = b) := by
  show PyData.eqv (.list (D.pys (rowsD a))) (.list (D.pys (rowsD b))) = _
  rw [PyData.eqv]
  exact eqvs_rows a b
theorem beq_rowsT (a b : List (List Int)) : D.beq (.tup (rowsD a)) (.tup (rowsD b)) = decide (a = b) := by
  show PyData.eqv (.tuple (D.pys (rowsD a))) (.tuple (D.pys (rowsD b))) = _
  rw [PyData.eqv]
  exact eqvs_rows a b
theorem dEq_rows (a b : List (List Int)) : dEq (.lst (rowsD a)) (.lst (rowsD b)) = .ok (.bl (decide (a = b))) := by
  show (if _ then _ else _) = _
  rw [if_pos ⟨rows_pl a 58, rows_pl b 58⟩, beq_rows]
theorem dNe_rows (a b : List (List Int)) : dNe (.lst (rowsD a)) (.lst (rowsD b)) = .ok (.bl (!decide (a = b))) := by
  show (if _ then _ else _) = _
  rw [if_pos ⟨rows_pl a 58, rows_pl b 58⟩, beq_rows]
theorem dEq_rowsT (a b : List (List Int)) : dEq (.tup (rowsD a)) (.tup (rowsD b)) = .ok (.bl (decide (a = b))) := by
  show (if _ then _ else _) = _
  rw [if_pos ⟨rows_pl a 58, rows_pl b 58⟩, beq_rowsT]
end DL

/-! Typed readings of the plain-data bodies: what a body does, told over Lean's own types. -/
namespace DL
open PySem PySem.Spec PyProof.Rows L2
open PySem.Builtin.Int (intBits)

/-- two lists, item by item -/
def A2 {α β : Type} (E : α → β → Prop) : List α → List β → Prop
  | [], ds => ds = []
  | a :: l, ds => ∃ d r, ds = d :: r ∧ E a d ∧ A2 E l r
section
variable {α β : Type} {E : α → β → Prop}
theorem A2.nil : A2 E [] [] := rfl
theorem A2.cons {a : α} {d : β} {l : List α} {r : List β} (h : E a d) (t : A2 E l r) : A2 E (a :: l) (d :: r) := ⟨d, r, rfl, h, t⟩
theorem A2.length : ∀ {l : List α} {r : List β}, A2 E l r → r.length = l.length
  | [], _, h => by rw [show _ = [] from h]; rfl
  | _ :: _, _, ⟨d, r, e, _, t⟩ => by rw [e, List.length_cons, List.length_cons, A2.length t]
theorem A2.append : ∀ {l l' : List α} {r r' : List β}, A2 E l r → A2 E l' r' → A2 E (l ++ l') (r ++ r')
  | [], _, _, _, h, t => by rw [show _ = [] from h]; exact t
  | _ :: _, _, _, _, ⟨d, r, e, x, y⟩, t => by rw [e]; exact ⟨d, _, rfl, x, A2.append y t⟩
theorem A2.reverse : ∀ {l : List α} {r : List β}, A2 E l r → A2 E l.reverse r.reverse
  | [], _, h => by rw [show _ = [] from h]; rfl
  | _ :: _, _, ⟨d, r, e, x, y⟩ => by rw [e, List.reverse_cons, List.reverse_cons]; exact (A2.reverse y).append ⟨d, [], rfl, x, rfl⟩
theorem A2.drop : ∀ {l : List α} {r : List β} (n : Nat), A2 E l r → A2 E (l.drop n) (r.drop n)
  | _, _, 0, h => h
  | [], _, n + 1, h => by rw [show _ = [] from h]; rfl
  | _ :: _, _, n + 1, ⟨d, r, e, x, y⟩ => by rw [e]; exact A2.drop n y
theorem A2.take : ∀ {l : List α} {r : List β} (n : Nat), A2 E l r → A2 E (l.take n) (r.take n)
  | _, _, 0, h => rfl
  | [], _, n + 1, h => by rw [show _ = [] from h]; rfl
  | _ :: _, _, n + 1, ⟨d, r, e, x, y⟩ => by rw [e]; exact ⟨d, _, rfl, x, A2.take n y⟩
theorem A2.set {a : α} {d : β} (h : E a d) : ∀ {l : List α} {r : List β} (n : Nat), A2 E l r → A2 E (l.set n a) (r.set n d)
  | [], _, n, e => by rw [show _ = [] from e]; rfl
  | _ :: _, _, 0, ⟨w, r, e, x, y⟩ => by rw [e]; exact ⟨d, r, rfl, h, y⟩
  | _ :: _, _, n + 1, ⟨w, r, e, x, y⟩ => by rw [e]; exact ⟨w, _, rfl, x, A2.set h n y⟩
theorem A2.get : ∀ {l : List α} {r : List β} {i : Nat} {a : α}, A2 E l r → l[i]? = some a → ∃ d, r[i]? = some d ∧ E a d
  | _ :: _, _, 0, _, ⟨v, r, e, x, y⟩, h => by cases h; exact ⟨v, by rw [e]; rfl, x⟩
  | _ :: _, _, i + 1, d, ⟨v, r, e, x, y⟩, h => by
    obtain ⟨w, h1, h2⟩ := A2.get (i := i) (a := d) y (by simpa using h)
    exact ⟨w, by rw [e]; simpa using h1, h2⟩
theorem A2.imp {E' : α → β → Prop} (f : ∀ a d, E a d → E' a d) : ∀ {l : List α} {r : List β}, A2 E l r → A2 E' l r
  | [], _, h => h
  | _ :: _, _, ⟨d, r, e, x, y⟩ => ⟨d, r, e, f _ _ x, A2.imp f y⟩
theorem A2.mapL {γ : Type} {E' : γ → β → Prop} (g : α → γ) (f : ∀ a d, E a d → E' (g a) d) : ∀ {l : List α} {r : List β}, A2 E l r → A2 E' (l.map g) r
  | [], _, h => h
  | _ :: _, _, ⟨d, r, e, x, y⟩ => ⟨d, r, e, f _ _ x, A2.mapL g f y⟩
theorem A2.fn {f : α → β} : ∀ {l : List α} {r : List β}, A2 (fun a d => d = f a) l r ↔ r = l.map f
  | [], r => Iff.rfl
  | a :: l, r => ⟨fun ⟨d, r', e, x, y⟩ => by rw [e, x, A2.fn.mp y]; rfl, fun h => ⟨f a, l.map f, h, rfl, A2.fn.mpr rfl⟩⟩
end

/-- r tells what x is, where it tells at all -/
def Rf {α β : Type} (x : Res β) (r : Res α) (E : α → β → Prop) : Prop := match r with
  | .ok a => ∃ d, x = .ok d ∧ E a d
  | .exc c fs => x = .exc c fs
  | .bad => True
section
variable {α β γ δ : Type}
theorem Rf.bind {x : Res β} {r : Res α} {E : α → β → Prop} {f : β → Res δ} {g : α → Res γ} {E' : γ → δ → Prop} (h : Rf x r E) (k : ∀ a d, E a d → Rf (f d) (g a) E') : Rf (x.bind f) (r.bind g) E' := by
  cases r with
  | ok a => obtain ⟨d, e, h⟩ := h; rw [e]; exact k a d h
  | exc c fs => rw [show x = _ from h]; exact rfl
  | bad => trivial
theorem Rf.ok {d : β} {a : α} {E : α → β → Prop} (h : E a d) : Rf (.ok d) (.ok a) E := ⟨d, rfl, h⟩
theorem Rf.bad {x : Res β} {E : α → β → Prop} : Rf x .bad E := trivial
theorem Rf.imp {x : Res β} {r : Res α} {E E' : α → β → Prop} (h : Rf x r E) (f : ∀ a d, E a d → E' a d) : Rf x r E' := by
  cases r with
  | ok a => obtain ⟨d, e, h⟩ := h; exact ⟨d, e, f _ _ h⟩
  | exc c fs => exact h
  | bad => trivial
theorem Rf.map {x : Res β} {r : Res α} {E : α → β → Prop} {E' : γ → β → Prop} {g : α → γ} (h : Rf x r E) (f : ∀ a d, E a d → E' (g a) d) : Rf x (r.bind fun a => .ok (g a)) E' := by
  cases r with
  | ok a => obtain ⟨d, e, h⟩ := h; exact ⟨d, e, f _ _ h⟩
  | exc c fs => exact h
  | bad => trivial
theorem Rf.get {x : Res β} {r : Res α} {E : α → β → Prop} {a : α} (h : Rf x r E) (e : r = .ok a) : ∃ d, x = .ok d ∧ E a d := by subst e; exact h
/-- where the reckoning itself is told -/
theorem Rf.of {x : Res β} {r : Res α} {E : α → β → Prop} {d : β} {a : α} (e : x = .ok d) (q : r = .ok a) (h : E a d) : Rf x r E := by subst q; exact ⟨d, e, h⟩
end

/-- what is known of a name -/
abbrev Kn := D → Bool → Prop
abbrev KEnv := List (Option Kn)
def sh {α : Type} (E : α → D → Prop) (a : α) : Kn := fun d o => E a d ∧ o = false
def ow {α : Type} (E : α → D → Prop) (a : α) : Kn := fun d o => E a d ∧ o = true
/-- the names' values are as known -/
def Le : KEnv → DL.Env → Prop := A2 fun r x => ∀ P, r = some P → ∃ d o, x = some (d, o) ∧ P d o
theorem Le.get {ρ : KEnv} {e : DL.Env} (h : Le ρ e) {i : Nat} {P : Kn} (k : ρ[i]? = some (some P)) : ∃ d o, e[i]? = some (some (d, o)) ∧ P d o := by
  obtain ⟨x, h1, h2⟩ := A2.get h k
  obtain ⟨d, o, h3, h4⟩ := h2 P rfl
  exact ⟨d, o, by rw [h1, h3], h4⟩
theorem Le.set {ρ : KEnv} {e : DL.Env} (h : Le ρ e) (i : Nat) {P : Kn} {d : D} {o : Bool} (k : P d o) : Le (ρ.set i (some P)) (e.set i (some (d, o))) :=
  A2.set (fun Q hq => by cases hq; exact ⟨d, o, rfl, k⟩) i h
theorem Le.forget {ρ : KEnv} {e : DL.Env} (h : Le ρ e) (i : Nat) : Le (ρ.set i none) (e.set i none) := A2.set (fun Q hq => by cases hq) i h
/-- less is known -/
def Sb : KEnv → KEnv → Prop := A2 fun r x => r = none ∨ r = x
theorem Le.less {ρ' ρ : KEnv} {e : DL.Env} (s : Sb ρ' ρ) (h : Le ρ e) : Le ρ' e := by
  induction ρ generalizing ρ' e with
  | nil =>
    cases ρ' with
    | nil => exact h
    | cons r ρ' => obtain ⟨_, _, e, _⟩ := s; cases e
  | cons x ρ ih =>
    obtain ⟨y, e', rfl, h1, h2⟩ := h
    cases ρ' with
    | nil => cases (show _ = [] from s)
    | cons r ρ' =>
      obtain ⟨_, _, e, s1, s2⟩ := s
      cases e
      refine ⟨y, e', rfl, fun P hP => ?_, ih s2 h2⟩
      rcases s1 with z | z
      · rw [z] at hP; cases hP
      · exact h1 P (z ▸ hP)
theorem Sb.nil : Sb [] [] := rfl
theorem Sb.same {r : Option Kn} {a b : KEnv} (s : Sb a b) : Sb (r :: a) (r :: b) := ⟨_, _, rfl, .inr rfl, s⟩
theorem Sb.drop {r : Option Kn} {a b : KEnv} (s : Sb a b) : Sb (none :: a) (r :: b) := ⟨_, _, rfl, .inl rfl, s⟩
theorem Sb.refl : ∀ a : KEnv, Sb a a
  | [] => rfl
  | _ :: a => .same (Sb.refl a)
/-- a list is handed on: what was owned is owned no more -/
def frK (P : Kn) : Kn := fun d o => o = false ∧ ∃ o', P d o'
def fzK : List Nat → KEnv → KEnv
  | [], ρ => ρ
  | i :: r, ρ => fzK r (match ρ[i]? with
    | some (some P) => ρ.set i (some (frK P))
    | _ => ρ)
theorem Le.unown {ρ : KEnv} {e : DL.Env} (h : Le ρ e) (i : Nat) : Le (match ρ[i]? with | some (some P) => ρ.set i (some (frK P)) | _ => ρ) (unown i e) := by
  cases hp : ρ[i]? with
  | none =>
    have : e[i]? = none := by
      rw [List.getElem?_eq_none_iff] at hp ⊢
      rw [A2.length h]; exact hp
    unfold DL.unown
    rw [this]
    exact h
  | some r =>
    cases r with
    | none =>
      have self : ρ.set i none = ρ := by
        apply List.ext_getElem?
        intro j
        rw [List.getElem?_set]
        by_cases hj : i = j
        · subst hj
          obtain ⟨w, hw⟩ := List.getElem?_eq_some_iff.mp hp
          simp [w, hw]
        · simp [hj]
      unfold DL.unown
      cases he : e[i]? with
      | none => exact h
      | some s =>
        cases s with
        | none => exact h
        | some z =>
          obtain ⟨d, o⟩ := z
          cases o with
          | false => exact h
          | true =>
            show Le ρ (e.set i (some (d, false)))
            rw [← self]
            exact A2.set (fun P hP => by cases hP) i h
    | some P =>
      obtain ⟨d, o, he, hP⟩ := h.get hp
      unfold DL.unown
      rw [he]
      cases o with
      | true => exact Le.set h i ⟨rfl, _, hP⟩
      | false =>
        dsimp only
        have : e.set i (some (d, false)) = e := by
          apply List.ext_getElem?
          intro j
          rw [List.getElem?_set]
          by_cases hj : i = j
          · subst hj
            rw [he]
            have := (List.getElem?_eq_some_iff.mp he).1
            simp [this]
          · simp [hj]
        rw [← this]
        exact Le.set h i ⟨rfl, _, hP⟩
theorem Le.fz : ∀ (al : List Nat) {ρ : KEnv} {e : DL.Env}, Le ρ e → Le (fzK al ρ) (fz al e)
  | [], _, _, h => h
  | i :: r, _, _, h => Le.fz r (h.unown i)
def wipeK (ρ : KEnv) : List Nat → KEnv
  | [] => ρ
  | v :: vs => (wipeK ρ vs).set v none
theorem Le.wipe {ρ : KEnv} {e : DL.Env} (h : Le ρ e) : ∀ vs : List Nat, Le (wipeK ρ vs) (wipeE e vs)
  | [] => h
  | v :: vs => (Le.wipe h vs).forget v

/-! ### expressions -/
def EvR {α β : Type} (ρ : KEnv) (f : DL.Env → Res β) (r : Res α) (E : α → β → Prop) : Prop := ∀ e, Le ρ e → Rf (f e) r E
abbrev RE (α : Type) := α → D → Prop
def eI : RE Int := fun i d => d = .int i
def eB : RE Bool := fun b d => d = .bl b
def eS : RE Str := fun x d => d = .str x
def eN : RE Unit := fun _ d => d = .non
def eD : RE D := fun a d => d = a
def eL {α : Type} (E : RE α) : RE (List α) := fun l d => ∃ ds, d = .lst ds ∧ A2 E l ds
def eT {α : Type} (E : RE α) : RE (List α) := fun l d => ∃ ds, d = .tup ds ∧ A2 E l ds
/-- rows of numbers -/
def eR : RE (List Int) := fun k d => d = ans k
/-- tuples of known form: the items' list -/
def qN : Unit → List D → Prop := fun _ ds => ds = []
def q1 {α : Type} (E : RE α) : α → List D → Prop := fun a ds => ∃ d, ds = [d] ∧ E a d
def qC {α β : Type} (E : RE α) (Q : β → List D → Prop) : α × β → List D → Prop := fun p ds => ∃ d r, ds = d :: r ∧ E p.1 d ∧ Q p.2 r
def eP {α : Type} (Q : α → List D → Prop) : RE α := fun a d => ∃ ds, (d = .tup ds ∨ d = .con ds) ∧ Q a ds
/-- shares -/
def eH : RE Rat := fun x d => d = shr x ∨ d = .con [.int x.num, .int x.den]
/-- truths and lists, as they are -/
def Tr : Bool → Bool → Prop := fun a b => b = a
def Ds : List D → List D → Prop := fun a b => b = a
/-- nothing or something -/
def eO {α : Type} (E : RE α) : RE (Option α) := fun o d => match o with
  | none => d = .non
  | some a => E a d
section
variable {α β γ δ : Type} {ρ : KEnv}
theorem v_s {i : Nat} {E : RE α} {a : α} (h : ρ[i]? = some (some (sh E a))) : EvR ρ (eVarS i) (.ok a) E := fun e l => by
  obtain ⟨d, o, h1, h2, h3⟩ := l.get h
  subst h3
  exact ⟨d, by unfold eVarS; rw [h1], h2⟩
theorem v_f {i : Nat} {E : RE α} {a : α} (h : ρ[i]? = some (some (frK (ow E a)))) : EvR ρ (eVar i) (.ok a) E := fun e l => by
  obtain ⟨d, o, h1, h2, o', h3, h4⟩ := l.get h
  exact ⟨d, by unfold eVar; rw [h1], h3⟩
theorem v_o {i : Nat} {E : RE α} {a : α} (h : ρ[i]? = some (some (ow E a))) : EvR ρ (eVar i) (.ok a) E := fun e l => by
  obtain ⟨d, o, h1, h2, h3⟩ := l.get h
  exact ⟨d, by unfold eVar; rw [h1], h2⟩
theorem v_vs {i : Nat} {E : RE α} {a : α} (h : ρ[i]? = some (some (sh E a))) : EvR ρ (eVar i) (.ok a) E := fun e l => by
  obtain ⟨d, o, h1, h2, h3⟩ := l.get h
  exact ⟨d, by unfold eVar; rw [h1], h2⟩
theorem v_c {d : D} {E : RE α} {a : α} (h : E a d) : EvR ρ (eC d) (.ok a) E := fun e l => ⟨d, rfl, h⟩
theorem v_op {fa fb : DL.Env → Res D} {g : D → D → Res D} {Ea : RE α} {Eb : RE β} {Ec : RE γ} {ra : Res α} {rb : Res β} {gt : α → β → Res γ} (hg : ∀ a b x y, Ea a x → Eb b y → Rf (g x y) (gt a b) Ec) (ha : EvR ρ fa ra Ea) (hb : EvR ρ fb rb Eb) :
    EvR ρ (eOp g fa fb) (ra.bind fun a => rb.bind fun b => gt a b) Ec := fun e l => (ha e l).bind fun a x h1 => (hb e l).bind fun b y h2 => hg a b x y h1 h2
theorem v_opp {fa fb : DL.Env → Res D} {g : D → D → Res D} {Ea : RE α} {Eb : RE β} {Ec : RE γ} {a : α} {b : β} {r : Res γ} (hg : ∀ x y, Ea a x → Eb b y → Rf (g x y) r Ec) (ha : EvR ρ fa (.ok a) Ea) (hb : EvR ρ fb (.ok b) Eb) :
    EvR ρ (eOp g fa fb) r Ec := fun e l => by
  obtain ⟨x, e1, h1⟩ := ha e l
  obtain ⟨y, e2, h2⟩ := hb e l
  unfold eOp
  rw [e1, e2]
  exact hg x y h1 h2
theorem v_1 {fa : DL.Env → Res D} {g : D → Res D} {Ea : RE α} {Ec : RE γ} {ra : Res α} {gt : α → Res γ} (hg : ∀ a x, Ea a x → Rf (g x) (gt a) Ec) (ha : EvR ρ fa ra Ea) : EvR ρ (e1 g fa) (ra.bind gt) Ec := fun e l => (ha e l).bind hg
theorem v_1p {fa : DL.Env → Res D} {g : D → Res D} {Ea : RE α} {Ec : RE γ} {a : α} {r : Res γ} (hg : ∀ x, Ea a x → Rf (g x) r Ec) (ha : EvR ρ fa (.ok a) Ea) : EvR ρ (e1 g fa) r Ec := fun e l => by
  obtain ⟨x, e1, h1⟩ := ha e l
  unfold DL.e1
  rw [e1]
  exact hg x h1
theorem v_imp {fa : DL.Env → Res β} {E E' : α → β → Prop} {r : Res α} (h : EvR ρ fa r E) (f : ∀ a d, E a d → E' a d) : EvR ρ fa r E' := fun e l => (h e l).imp f
theorem v_cast {fa : DL.Env → Res β} {E : α → β → Prop} {E' : γ → β → Prop} {a : α} {c : γ} (h : EvR ρ fa (.ok a) E) (f : ∀ d, E a d → E' c d) : EvR ρ fa (.ok c) E' := fun e l => by
  obtain ⟨x, e1, h1⟩ := h e l
  exact ⟨x, e1, f x h1⟩
theorem v_map {fa : DL.Env → Res β} {E : α → β → Prop} {E' : γ → β → Prop} {r : Res α} {g : α → γ} (h : EvR ρ fa r E) (f : ∀ a d, E a d → E' (g a) d) : EvR ρ fa (r.bind fun a => .ok (g a)) E' := fun e l => (h e l).map f
/-- typed anew, where it can be -/
theorem v_as {fa : DL.Env → Res β} {E : α → β → Prop} {E' : γ → β → Prop} {r : Res α} {g : α → Res γ} (h : EvR ρ fa r E) (f : ∀ a d c, E a d → g a = .ok c → E' c d) (n : ∀ a c fs, g a ≠ .exc c fs) : EvR ρ fa (r.bind g) E' := fun e l => by
  have := h e l
  cases r with
  | ok a =>
    obtain ⟨d, e1, h1⟩ := this
    show Rf (fa e) (g a) E'
    cases q : g a with
    | ok c => exact ⟨d, e1, f a d c h1 q⟩
    | exc c fs => exact absurd q (n _ _ _)
    | bad => trivial
  | exc c fs => exact this
  | bad => trivial
/-- arguments -/
theorem va_nil : EvR ρ aNil (.ok ([] : List D)) Ds := fun e l => ⟨[], rfl, rfl⟩
theorem vq_n : EvR ρ aNil (.ok ()) qN := fun e l => ⟨[], rfl, rfl⟩
theorem vq_1 {f : DL.Env → Res D} {r : Res α} {E : RE α} (h : EvR ρ f r E) : EvR ρ (aCons f aNil) r (q1 E) := fun e l => by
  have := h e l
  unfold aCons aNil
  cases r with
  | ok a => obtain ⟨d, e1, h1⟩ := this; rw [e1]; exact ⟨[d], rfl, d, rfl, h1⟩
  | exc c fs => rw [show f e = _ from this]; rfl
  | bad => trivial
theorem vq_c {f : DL.Env → Res D} {fs : DL.Env → Res (List D)} {r : Res α} {rs : Res β} {E : RE α} {Q : β → List D → Prop} (h : EvR ρ f r E) (t : EvR ρ fs rs Q) : EvR ρ (aCons f fs) (r.bind fun a => rs.bind fun b => .ok (a, b)) (qC E Q) := fun e l =>
  (h e l).bind fun a d h1 => (t e l).bind fun b ds h2 => .ok ⟨d, ds, rfl, h1, h2⟩
theorem vq_cp {f : DL.Env → Res D} {fs : DL.Env → Res (List D)} {a : α} {b : β} {E : RE α} {Q : β → List D → Prop} (h : EvR ρ f (.ok a) E) (t : EvR ρ fs (.ok b) Q) : EvR ρ (aCons f fs) (.ok (a, b)) (qC E Q) := vq_c h t
/-- as many items as one likes, all of a kind -/
theorem vl_nil {E : RE α} : EvR ρ aNil (.ok []) (A2 E) := fun e l => ⟨[], rfl, rfl⟩
theorem vl_c {f : DL.Env → Res D} {fs : DL.Env → Res (List D)} {r : Res α} {rs : Res (List α)} {E : RE α} (h : EvR ρ f r E) (t : EvR ρ fs rs (A2 E)) : EvR ρ (aCons f fs) (r.bind fun a => rs.bind fun b => .ok (a :: b)) (A2 E) := fun e l =>
  (h e l).bind fun a d h1 => (t e l).bind fun b ds h2 => .ok ⟨d, ds, rfl, h1, h2⟩
theorem vl_cp {f : DL.Env → Res D} {fs : DL.Env → Res (List D)} {a : α} {b : List α} {E : RE α} (h : EvR ρ f (.ok a) E) (t : EvR ρ fs (.ok b) (A2 E)) : EvR ρ (aCons f fs) (.ok (a :: b)) (A2 E) := vl_c h t
theorem v_tup {fs : DL.Env → Res (List D)} {r : Res α} {Q : α → List D → Prop} (h : EvR ρ fs r Q) : EvR ρ (eTup fs) r (eP Q) := fun e l => by
  have := h e l
  unfold eTup
  cases r with
  | ok a => obtain ⟨d, e1, h1⟩ := this; rw [e1]; exact ⟨_, rfl, d, .inl rfl, h1⟩
  | exc c fs' => rw [show fs e = _ from this]; rfl
  | bad => trivial
theorem v_tupT {fs : DL.Env → Res (List D)} {r : Res (List α)} {E : RE α} (h : EvR ρ fs r (A2 E)) : EvR ρ (eTup fs) r (eT E) := fun e l => by
  have := h e l
  unfold eTup
  cases r with
  | ok a => obtain ⟨d, e1, h1⟩ := this; rw [e1]; exact ⟨_, rfl, d, rfl, h1⟩
  | exc c fs' => rw [show fs e = _ from this]; rfl
  | bad => trivial
theorem v_tupR {fs : DL.Env → Res (List D)} {r : Res (List Int)} (h : EvR ρ fs r (A2 eI)) : EvR ρ (eTup fs) r eR := fun e l => by
  have := h e l
  unfold eTup
  cases r with
  | ok a => obtain ⟨d, e1, h1⟩ := this; rw [e1]; exact ⟨_, rfl, by rw [A2.fn.mp h1]; rfl⟩
  | exc c fs' => rw [show fs e = _ from this]; rfl
  | bad => trivial
theorem v_lst {fs : DL.Env → Res (List D)} {r : Res (List α)} {E : RE α} (h : EvR ρ fs r (A2 E)) : EvR ρ (eLst fs) r (eL E) := fun e l => by
  have := h e l
  unfold eLst
  cases r with
  | ok a => obtain ⟨d, e1, h1⟩ := this; rw [e1]; exact ⟨_, rfl, d, rfl, h1⟩
  | exc c fs' => rw [show fs e = _ from this]; rfl
  | bad => trivial
/-- a call: what the def does on data of these readings -/
def CallR (F : List D → Res D) (Q : α → List D → Prop) (t : α → Res β) (E : RE β) : Prop := ∀ a ds, Q a ds → Rf (F ds) (t a) E
theorem v_call {F : List D → Res D} {fs : DL.Env → Res (List D)} {Q : α → List D → Prop} {t : α → Res β} {E : RE β} {r : Res α} (c : CallR F Q t E) (h : EvR ρ fs r Q) : EvR ρ (eCall F fs) (r.bind t) E := fun e l => (h e l).bind c
theorem v_callp {F : List D → Res D} {fs : DL.Env → Res (List D)} {Q : α → List D → Prop} {t : α → Res β} {E : RE β} {a : α} (c : CallR F Q t E) (h : EvR ρ fs (.ok a) Q) : EvR ρ (eCall F fs) (t a) E := fun e l => by
  obtain ⟨d, e1, h1⟩ := h e l
  unfold eCall
  rw [e1]
  exact c a d h1
/-! tests -/
theorem b_test {fa fb : DL.Env → Res D} {g : D → D → Res D} {r : Res Bool} (h : EvR ρ (eOp g fa fb) r eB) : EvR ρ (bTest g fa fb) r Tr := fun e l => by
  have := h e l
  unfold eOp at this
  unfold bTest
  have q : ∀ (x y : D), ((g x y).bind D.asB) = (g x y).bind D.asB := fun _ _ => rfl
  have ass : (fa e).bind (fun x => (fb e).bind fun y => (g x y).bind D.asB) = ((fa e).bind fun x => (fb e).bind fun y => g x y).bind D.asB := by
    cases fa e with
    | ok x => cases fb e <;> rfl
    | exc c fs => rfl
    | bad => rfl
  rw [ass]
  have z := this.bind (f := D.asB) (g := fun b => Res.ok b) (E' := Tr) fun b d hd => by rw [show d = _ from hd]; exact ⟨b, rfl, rfl⟩
  cases r <;> exact z
theorem b_val {f : DL.Env → Res D} {r : Res Bool} (h : EvR ρ f r eB) : EvR ρ (bVal f) r Tr := fun e l => by
  have := (h e l).bind (f := D.asB) (g := fun b => Res.ok b) (E' := Tr) fun b d hd => by rw [show d = _ from hd]; exact ⟨b, rfl, rfl⟩
  cases r <;> exact this
theorem b_truB {f : DL.Env → Res D} {r : Res Bool} (h : EvR ρ f r eB) : EvR ρ (bTruth f) r Tr := fun e l => by
  have := (h e l).bind (f := D.truth) (g := fun b => Res.ok b) (E' := Tr) fun b d hd => by rw [show d = _ from hd]; exact ⟨b, rfl, rfl⟩
  cases r <;> exact this
theorem b_truI {f : DL.Env → Res D} {i : Int} (h : EvR ρ f (.ok i) eI) : EvR ρ (bTruth f) (.ok (decide (i ≠ 0))) Tr := fun e l => by
  obtain ⟨d, e1, h1⟩ := h e l
  unfold bTruth
  rw [e1, show d = _ from h1]
  exact ⟨_, truth_int i, rfl⟩
theorem b_and {fa fb : DL.Env → Res Bool} {ra rb : Res Bool} (ha : EvR ρ fa ra Tr) (hb : EvR ρ fb rb Tr) : EvR ρ (bAnd fa fb) (ra.bind fun b => if b = true then rb else .ok false) Tr := fun e l =>
  (ha e l).bind fun a b h => by
    rw [show b = a from h]
    cases a
    · exact ⟨false, rfl, rfl⟩
    · exact hb e l
theorem b_or {fa fb : DL.Env → Res Bool} {ra rb : Res Bool} (ha : EvR ρ fa ra Tr) (hb : EvR ρ fb rb Tr) : EvR ρ (bOr fa fb) (ra.bind fun b => if b = true then .ok true else rb) Tr := fun e l =>
  (ha e l).bind fun a b h => by
    rw [show b = a from h]
    cases a
    · exact hb e l
    · exact ⟨true, rfl, rfl⟩
theorem b_not {fa : DL.Env → Res Bool} {ra : Res Bool} (ha : EvR ρ fa ra Tr) : EvR ρ (bNot fa) (ra.bind fun b => .ok (!b)) Tr := fun e l =>
  (ha e l).bind fun a b h => by rw [show b = a from h]; exact ⟨_, rfl, rfl⟩
theorem b_andP {fa fb : DL.Env → Res Bool} {P Q : Prop} [Decidable P] [Decidable Q] (ha : EvR ρ fa (.ok (decide P)) Tr) (hb : EvR ρ fb (.ok (decide Q)) Tr) : EvR ρ (bAnd fa fb) (.ok (decide (P ∧ Q))) Tr := fun e l => by
  have := b_and ha hb e l
  rw [show (Res.ok (decide P)).bind (fun b => if b = true then Res.ok (decide Q) else .ok false) = .ok (decide (P ∧ Q)) by by_cases h : P <;> simp [h]] at this
  exact this
theorem b_orP {fa fb : DL.Env → Res Bool} {P Q : Prop} [Decidable P] [Decidable Q] (ha : EvR ρ fa (.ok (decide P)) Tr) (hb : EvR ρ fb (.ok (decide Q)) Tr) : EvR ρ (bOr fa fb) (.ok (decide (P ∨ Q))) Tr := fun e l => by
  have := b_or ha hb e l
  rw [show (Res.ok (decide P)).bind (fun b => if b = true then .ok true else Res.ok (decide Q)) = .ok (decide (P ∨ Q)) by by_cases h : P <;> simp [h]] at this
  exact this
theorem b_notP {fa : DL.Env → Res Bool} {P : Prop} [Decidable P] (ha : EvR ρ fa (.ok (decide P)) Tr) : EvR ρ (bNot fa) (.ok (decide (¬ P))) Tr := fun e l => by
  have := b_not ha e l
  rw [show (Res.ok (decide P)).bind (fun b => .ok (!b)) = .ok (decide (¬ P)) by by_cases h : P <;> simp [h]] at this
  exact this
theorem b_yes : EvR ρ bYes (.ok (decide True)) Tr := fun e l => ⟨true, rfl, rfl⟩
/-- as a proposition -/
theorem b_P {fa : DL.Env → Res Bool} {b : Bool} (ha : EvR ρ fa (.ok b) Tr) : EvR ρ fa (.ok (decide (b = true))) Tr := by
  cases b <;> exact ha
/-! values of and, or, not -/
theorem v_and {fa fb : DL.Env → Res D} {ra rb : Res Bool} (ha : EvR ρ fa ra eB) (hb : EvR ρ fb rb eB) : EvR ρ (eAnd fa fb) (ra.bind fun b => if b = true then rb else .ok false) eB := fun e l =>
  (ha e l).bind fun a b h => by
    rw [show b = _ from h]
    cases a
    · exact ⟨_, rfl, rfl⟩
    · exact hb e l
theorem v_or {fa fb : DL.Env → Res D} {ra rb : Res Bool} (ha : EvR ρ fa ra eB) (hb : EvR ρ fb rb eB) : EvR ρ (eOr fa fb) (ra.bind fun b => if b = true then .ok true else rb) eB := fun e l =>
  (ha e l).bind fun a b h => by
    rw [show b = _ from h]
    cases a
    · exact hb e l
    · exact ⟨_, rfl, rfl⟩
theorem v_not {fa : DL.Env → Res D} {ra : Res Bool} (ha : EvR ρ fa ra eB) : EvR ρ (eNot fa) (ra.bind fun b => .ok (!b)) eB := fun e l =>
  (ha e l).bind fun a b h => by rw [show b = _ from h]; exact ⟨_, rfl, rfl⟩
theorem v_andP {fa fb : DL.Env → Res D} {P Q : Prop} [Decidable P] [Decidable Q] (ha : EvR ρ fa (.ok (decide P)) eB) (hb : EvR ρ fb (.ok (decide Q)) eB) : EvR ρ (eAnd fa fb) (.ok (decide (P ∧ Q))) eB := fun e l => by
  have := v_and ha hb e l
  rw [show (Res.ok (decide P)).bind (fun b => if b = true then Res.ok (decide Q) else .ok false) = .ok (decide (P ∧ Q)) by by_cases h : P <;> simp [h]] at this
  exact this
theorem v_orP {fa fb : DL.Env → Res D} {P Q : Prop} [Decidable P] [Decidable Q] (ha : EvR ρ fa (.ok (decide P)) eB) (hb : EvR ρ fb (.ok (decide Q)) eB) : EvR ρ (eOr fa fb) (.ok (decide (P ∨ Q))) eB := fun e l => by
  have := v_or ha hb e l
  rw [show (Res.ok (decide P)).bind (fun b => if b = true then .ok true else Res.ok (decide Q)) = .ok (decide (P ∨ Q)) by by_cases h : P <;> simp [h]] at this
  exact this
theorem v_notP {fa : DL.Env → Res D} {P : Prop} [Decidable P] (ha : EvR ρ fa (.ok (decide P)) eB) : EvR ρ (eNot fa) (.ok (decide (¬ P))) eB := fun e l => by
  have := v_not ha e l
  rw [show (Res.ok (decide P)).bind (fun b => .ok (!b)) = .ok (decide (¬ P)) by by_cases h : P <;> simp [h]] at this
  exact this
theorem v_P {fa : DL.Env → Res D} {b : Bool} (ha : EvR ρ fa (.ok b) eB) : EvR ρ fa (.ok (decide (b = true))) eB := by
  cases b <;> exact ha
theorem v_if {ft : DL.Env → Res Bool} {fa fb : DL.Env → Res D} {rt : Res Bool} {ra rb : Res α} {E : RE α} (ht : EvR ρ ft rt Tr) (ha : EvR ρ fa ra E) (hb : EvR ρ fb rb E) : EvR ρ (eIf ft fa fb) (rt.bind fun b => if b = true then ra else rb) E := fun e l =>
  (ht e l).bind fun a b h => by
    rw [show b = a from h]
    cases a
    · exact hb e l
    · exact ha e l
theorem v_ifP {ft : DL.Env → Res Bool} {fa fb : DL.Env → Res D} {P : Prop} [Decidable P] {ra rb : Res α} {E : RE α} (ht : EvR ρ ft (.ok (decide P)) Tr) (ha : EvR ρ fa ra E) (hb : EvR ρ fb rb E) : EvR ρ (eIf ft fa fb) (if P then ra else rb) E := fun e l => by
  have := v_if ht ha hb e l
  rw [show (Res.ok (decide P)).bind (fun b => if b = true then ra else rb) = (if P then ra else rb) by by_cases h : P <;> simp [h]] at this
  exact this
theorem v_ifPP {ft : DL.Env → Res Bool} {fa fb : DL.Env → Res D} {P : Prop} [Decidable P] {a b : α} {E : RE α} (ht : EvR ρ ft (.ok (decide P)) Tr) (ha : EvR ρ fa (.ok a) E) (hb : EvR ρ fb (.ok b) E) : EvR ρ (eIf ft fa fb) (.ok (if P then a else b)) E := fun e l => by
  have := v_ifP ht ha hb e l
  by_cases h : P
  · rw [if_pos h] at this ⊢; exact this
  · rw [if_neg h] at this ⊢; exact this
end
end DL

/-! Typed readings: statements, loops, defs. -/
namespace DL
open PySem PySem.Spec PyProof.Rows L2
open PySem.Builtin.Int (intBits)

/-- how a turn of a loop ends -/
inductive Oc (S R : Type) where
  | nx (s : S)
  | bk (s : S)
  | rt (v : R)

/-- what a block does, told by r; P: what an end means -/
def JM {T : Type} (r : Res T) (P : T → Out → Prop) (o : Out) : Prop := match r with
  | .ok t => P t o
  | .exc c fs => ∃ e', o = .ex c fs e'
  | .bad => True
def J {T : Type} (ρ : KEnv) (b : DL.Env → Out) (r : Res T) (P : T → Out → Prop) : Prop := ∀ e, Le ρ e → JM r P (b e)
/-- a def's end -/
def PT {R : Type} (E : RE R) : R → Out → Prop := fun v o => ∃ d, E v d ∧ (o = .rt d ∨ o = .ro d ∨ ((∃ e, o = .nx e) ∧ d = .non))
/-- on to the next -/
def PN {S : Type} (ρ : S → KEnv) : S → Out → Prop := fun s o => ∃ e, o = .nx e ∧ Le (ρ s) e
/-- a turn's end -/
def PB {S : Type} (ρ : S → KEnv) : S → Out → Prop := fun s o => ∃ e, (o = .nx e ∨ o = .ct e) ∧ Le (ρ s) e
def PL {S R : Type} (ρ : S → KEnv) (E : RE R) : Oc S R → Out → Prop := fun t o => match t with
  | .nx s => ∃ e, (o = .nx e ∨ o = .ct e) ∧ Le (ρ s) e
  | .bk s => ∃ e, o = .bk e ∧ Le (ρ s) e
  | .rt v => ∃ d, E v d ∧ (o = .rt d ∨ o = .ro d)
/-- a loop's end -/
def PX {S R : Type} (ρ : S → KEnv) (E : RE R) : Oc S R → Out → Prop := fun t o => match t with
  | .nx s => ∃ e, o = .nx e ∧ Le (ρ s) e
  | .bk _ => False
  | .rt v => ∃ d, E v d ∧ (o = .rt d ∨ o = .ro d)
/-- a step that always goes on -/
def Go (ρ : KEnv) (b : DL.Env → Out) (ρ' : KEnv) : Prop := ∀ e, Le ρ e → ∃ e', b e = .nx e' ∧ Le ρ' e'
section
variable {T S R α β : Type} {ρ ρ' : KEnv} {a b c : DL.Env → Out} {r : Res T} {P : T → Out → Prop}
theorem Go.j (h : Go ρ a ρ') : J ρ a (.ok ()) (PN fun _ => ρ') := fun e l => h e l
theorem j_last (h : J ρ a r P) : J ρ (sSeq a sSkip) r P := fun e l => by
  have : sSeq a sSkip e = a e := by unfold sSeq sSkip; cases a e <;> rfl
  rw [this]
  exact h e l
theorem j_go (h : Go ρ a ρ') (k : J ρ' b r P) : J ρ (sSeq a b) r P := fun e l => by
  obtain ⟨e', h1, h2⟩ := h e l
  have : sSeq a b e = b e' := by unfold sSeq; rw [h1]
  rw [this]
  exact k e' h2
theorem j_do {s : Res S} {ρs : S → KEnv} {k : S → Res T} (h : J ρ a s (PN ρs)) (q : ∀ x, J (ρs x) b (k x) P) : J ρ (sSeq a b) (s.bind k) P := fun e l => by
  have := h e l
  cases s with
  | ok x =>
    obtain ⟨e', h1, h2⟩ := this
    have : sSeq a b e = b e' := by unfold sSeq; rw [h1]
    rw [this]
    exact q x e' h2
  | exc cc fs => obtain ⟨e', h1⟩ := this; exact ⟨e', by unfold sSeq; rw [h1]⟩
  | bad => trivial
theorem j_assoc (h : J ρ (sSeq a (sSeq b c)) r P) : J ρ (sSeq (sSeq a b) c) r P := fun e l => by
  have : sSeq (sSeq a b) c e = sSeq a (sSeq b c) e := by unfold sSeq; cases a e <;> rfl
  rw [this]
  exact h e l
theorem j_skip (h : J ρ b r P) : J ρ (sSeq sSkip b) r P := fun e l => h e l
theorem j_less (s : Sb ρ' ρ) (h : J ρ' b r P) : J ρ b r P := fun e l => h e (l.less s)
theorem j_if {al : List Nat} {ft : DL.Env → Res Bool} {rt : Res Bool} {ra rb : Res T} (hc : EvR ρ ft rt Tr) (ha : J (fzK al ρ) a ra P) (hb : J (fzK al ρ) b rb P) : J ρ (sIf al ft a b) (rt.bind fun z => if z = true then ra else rb) P := fun e l => by
  have := hc e l
  have f := l.fz al
  cases rt with
  | ok z =>
    obtain ⟨y, h1, h2⟩ := this
    have q : sIf al ft a b e = if y = true then a (fz al e) else b (fz al e) := by rw [sIf_app, h1]
    rw [q, show y = z from h2]
    cases z
    · exact hb _ f
    · exact ha _ f
  | exc cc fs => exact ⟨_, by rw [sIf_app, show ft e = _ from this]⟩
  | bad => trivial
theorem j_ifP {al : List Nat} {ft : DL.Env → Res Bool} {p : Prop} [Decidable p] {ra rb : Res T} (hc : EvR ρ ft (.ok (decide p)) Tr) (ha : J (fzK al ρ) a ra P) (hb : J (fzK al ρ) b rb P) : J ρ (sIf al ft a b) (if p then ra else rb) P := by
  have := j_if hc ha hb
  by_cases h : p
  · rw [if_pos h]; simpa [h] using this
  · rw [if_neg h]; simpa [h] using this
theorem seq_if (al : List Nat) (ft : DL.Env → Res Bool) : sSeq (sIf al ft a b) c = sIf al ft (sSeq a c) (sSeq b c) := by
  funext e
  rw [sSeq_app, sIf_app, sIf_app]
  cases ft e with
  | ok z => cases z <;> rfl
  | exc cc fs => rfl
  | bad => rfl
theorem j_ifs {al : List Nat} {ft : DL.Env → Res Bool} {rt : Res Bool} {ra rb : Res T} (hc : EvR ρ ft rt Tr) (ha : J (fzK al ρ) (sSeq a c) ra P) (hb : J (fzK al ρ) (sSeq b c) rb P) : J ρ (sSeq (sIf al ft a b) c) (rt.bind fun z => if z = true then ra else rb) P := by
  rw [seq_if]; exact j_if hc ha hb
theorem j_ifsP {al : List Nat} {ft : DL.Env → Res Bool} {p : Prop} [Decidable p] {ra rb : Res T} (hc : EvR ρ ft (.ok (decide p)) Tr) (ha : J (fzK al ρ) (sSeq a c) ra P) (hb : J (fzK al ρ) (sSeq b c) rb P) : J ρ (sSeq (sIf al ft a b) c) (if p then ra else rb) P := by
  rw [seq_if]; exact j_ifP hc ha hb
/-! ends -/
theorem j_ret {al : List Nat} {f : DL.Env → Res D} {x : Res R} {E : RE R} {g : R → T} (hP : ∀ v d, E v d → P (g v) (.rt d)) (h : EvR ρ f x E) : J ρ (sSeq (sRet al f) c) (x.bind fun v => .ok (g v)) P := fun e l => by
  have := h e l
  cases x with
  | ok v => obtain ⟨d, h1, h2⟩ := this; show P (g v) _; rw [sSeq_app, sRet_app, h1]; exact hP v d h2
  | exc cc fs => exact ⟨_, by rw [sSeq_app, sRet_app, show f e = _ from this]⟩
  | bad => trivial
theorem j_retT {al : List Nat} {f : DL.Env → Res D} {x : Res R} {E : RE R} (h : EvR ρ f x E) : J ρ (sSeq (sRet al f) c) x (PT E) := by
  have := j_ret (ρ := ρ) (c := c) (al := al) (g := fun v => v) (P := PT E) (fun v d hd => ⟨d, hd, .inl rfl⟩) h
  cases x <;> exact this
theorem j_retL {al : List Nat} {f : DL.Env → Res D} {x : Res R} {E : RE R} {ρs : S → KEnv} (h : EvR ρ f x E) : J ρ (sSeq (sRet al f) c) (x.bind fun v => .ok (.rt v)) (PL ρs E) := j_ret (fun v d hd => ⟨d, hd, .inl rfl⟩) h
theorem j_retN : J ρ (sSeq sRetN c) (.ok ()) (PT eN) := fun e l => ⟨.non, rfl, .inl rfl⟩
theorem j_retNO {α : Type} {E : RE α} : J ρ (sSeq sRetN c) (.ok none) (PT (eO E)) := fun e l => ⟨.non, rfl, .inl rfl⟩
theorem j_retNL {ρs : S → KEnv} : J ρ (sSeq sRetN c) (.ok (.rt ())) (PL ρs eN) := fun e l => ⟨.non, rfl, .inl rfl⟩
theorem j_fall : J ρ sSkip (.ok ()) (PT eN) := fun e l => ⟨.non, rfl, .inr (.inr ⟨⟨e, rfl⟩, rfl⟩)⟩
theorem j_raise {cn : String} : J ρ (sSeq (sRaise cn) c) (.exc cn []) P := fun e l => ⟨e, rfl⟩
theorem j_end {ρs : S → KEnv} {s : S} (h : Sb (ρs s) ρ) : J ρ sSkip (.ok s) (PN ρs) := fun e l => ⟨e, rfl, l.less h⟩
theorem j_endB {ρs : S → KEnv} {s : S} (h : Sb (ρs s) ρ) : J ρ sSkip (.ok s) (PB ρs) := fun e l => ⟨e, .inl rfl, l.less h⟩
theorem j_endL {ρs : S → KEnv} {E : RE R} {s : S} (h : Sb (ρs s) ρ) : J ρ sSkip (.ok (.nx s)) (PL ρs E) := fun e l => ⟨e, .inl rfl, l.less h⟩
theorem j_contB {ρs : S → KEnv} {s : S} (h : Sb (ρs s) ρ) : J ρ (sSeq sCont c) (.ok s) (PB ρs) := fun e l => ⟨e, .inr rfl, l.less h⟩
theorem j_contL {ρs : S → KEnv} {E : RE R} {s : S} (h : Sb (ρs s) ρ) : J ρ (sSeq sCont c) (.ok (.nx s)) (PL ρs E) := fun e l => ⟨e, .inr rfl, l.less h⟩
theorem j_breakL {ρs : S → KEnv} {E : RE R} {s : S} (h : Sb (ρs s) ρ) : J ρ (sSeq sBreak c) (.ok (.bk s)) (PL ρs E) := fun e l => ⟨e, rfl, l.less h⟩
/-- a loop that may return, and what comes behind it -/
def thenX (s : Res (Oc S R)) (m : R → T) (k : S → Res T) : Res T := s.bind fun o => match o with
  | .nx x => k x
  | .rt v => .ok (m v)
  | .bk _ => .bad
theorem j_x {s : Res (Oc S R)} {E : RE R} {ρs : S → KEnv} {k : S → Res T} {m : R → T} (hP : ∀ v d o, E v d → (o = .rt d ∨ o = .ro d) → P (m v) o) (h : J ρ a s (PX ρs E)) (q : ∀ x, J (ρs x) b (k x) P) : J ρ (sSeq a b) (thenX s m k) P := fun e l => by
  have := h e l
  unfold thenX
  cases s with
  | ok x =>
    cases x with
    | nx x =>
      obtain ⟨e', h1, h2⟩ := this
      have : sSeq a b e = b e' := by unfold sSeq; rw [h1]
      show JM (k x) P (sSeq a b e)
      rw [this]
      exact q x e' h2
    | rt v =>
      obtain ⟨d, h1, h2⟩ := this
      show P (m v) (sSeq a b e)
      have : sSeq a b e = a e := by unfold sSeq; rcases h2 with h2 | h2 <;> rw [h2]
      rw [this]
      exact hP v d _ h1 h2
    | bk x => exact this.elim
  | exc cc fs => obtain ⟨e', h1⟩ := this; exact ⟨e', by unfold sSeq; rw [h1]⟩
  | bad => trivial
theorem j_xT {s : Res (Oc S R)} {E : RE R} {ρs : S → KEnv} {k : S → Res R} (h : J ρ a s (PX ρs E)) (q : ∀ x, J (ρs x) b (k x) (PT E)) : J ρ (sSeq a b) (thenX s (fun v => v) k) (PT E) :=
  j_x (fun v d o hd ho => ⟨d, hd, ho.imp (fun z => z) .inl⟩) h q
theorem j_xL {S' : Type} {s : Res (Oc S R)} {E : RE R} {ρs : S → KEnv} {ρt : S' → KEnv} {k : S → Res (Oc S' R)} (h : J ρ a s (PX ρs E)) (q : ∀ x, J (ρs x) b (k x) (PL ρt E)) : J ρ (sSeq a b) (thenX s .rt k) (PL ρt E) :=
  j_x (fun v d o hd ho => ⟨d, hd, ho⟩) h q
/-! simple statements -/
theorem g_set {al : List Nat} {i : Nat} {f : DL.Env → Res D} {E : RE α} {x : α} (h : EvR ρ f (.ok x) E) : Go ρ (sSet al i f) ((fzK al ρ).set i (some (sh E x))) := fun e l => by
  obtain ⟨d, h1, h2⟩ := h e l
  exact ⟨_, by rw [sSet_app, h1], (l.fz al).set i ⟨h2, rfl⟩⟩
theorem g_setF {al : List Nat} {i : Nat} {f : DL.Env → Res D} {E : RE α} {x : α} (h : EvR ρ f (.ok x) E) : Go ρ (sSetF al i f) ((fzK al ρ).set i (some (ow E x))) := fun e l => by
  obtain ⟨d, h1, h2⟩ := h e l
  exact ⟨_, by rw [sSetF_app, h1], (l.fz al).set i ⟨h2, rfl⟩⟩
theorem d_set {al : List Nat} {i : Nat} {f : DL.Env → Res D} {E : RE α} {x : Res α} (h : EvR ρ f x E) : J ρ (sSet al i f) x (PN fun v => (fzK al ρ).set i (some (sh E v))) := fun e l => by
  have := h e l
  cases x with
  | ok v => obtain ⟨d, h1, h2⟩ := this; exact ⟨_, by rw [sSet_app, h1], (l.fz al).set i ⟨h2, rfl⟩⟩
  | exc cc fs => exact ⟨_, by rw [sSet_app, show f e = _ from this]⟩
  | bad => trivial
theorem d_setF {al : List Nat} {i : Nat} {f : DL.Env → Res D} {E : RE α} {x : Res α} (h : EvR ρ f x E) : J ρ (sSetF al i f) x (PN fun v => (fzK al ρ).set i (some (ow E v))) := fun e l => by
  have := h e l
  cases x with
  | ok v => obtain ⟨d, h1, h2⟩ := this; exact ⟨_, by rw [sSetF_app, h1], (l.fz al).set i ⟨h2, rfl⟩⟩
  | exc cc fs => exact ⟨_, by rw [sSetF_app, show f e = _ from this]⟩
  | bad => trivial
theorem g_drop {al : List Nat} {f : DL.Env → Res D} {E : RE α} {x : α} (h : EvR ρ f (.ok x) E) : Go ρ (sDrop al f) (fzK al ρ) := fun e l => by
  obtain ⟨d, h1, h2⟩ := h e l
  exact ⟨_, by rw [sDrop_app, h1], l.fz al⟩
theorem d_drop {al : List Nat} {f : DL.Env → Res D} {E : RE α} {x : Res α} (h : EvR ρ f x E) : J ρ (sDrop al f) x (PN fun _ => fzK al ρ) := fun e l => by
  have := h e l
  cases x with
  | ok v => obtain ⟨d, h1, h2⟩ := this; exact ⟨_, by rw [sDrop_app, h1], l.fz al⟩
  | exc cc fs => exact ⟨_, by rw [sDrop_app, show f e = _ from this]⟩
  | bad => trivial
/-- a pattern takes what is read as E, the names known as ρ then as ρ' -/
def BindR (p : Pat) (E : RE α) (x : α) (ρ ρ' : KEnv) : Prop := ∀ d e, E x d → Le ρ e → ∃ e', p.bind d e = .ok e' ∧ Le ρ' e'
theorem p_nm {i : Nat} {E : RE α} {x : α} : BindR (.nm i) E x ρ (ρ.set i (some (sh E x))) := fun d e h l => ⟨_, rfl, l.set i ⟨h, rfl⟩⟩
/-- .. a list of patterns -/
def BindsR (ps : List Pat) (Q : α → List D → Prop) (x : α) (ρ ρ' : KEnv) : Prop := ∀ ds e, Q x ds → Le ρ e → ∃ e', Pat.binds ps ds e = .ok e' ∧ Le ρ' e'
theorem ps_1 {p : Pat} {E : RE α} {x : α} (h : BindR p E x ρ ρ') : BindsR [p] (q1 E) x ρ ρ' := fun ds e ⟨d, h1, h2⟩ l => by
  obtain ⟨e', a1, a2⟩ := h d e h2 l
  subst h1
  exact ⟨e', by unfold Pat.binds; rw [a1]; rfl, a2⟩
theorem ps_c {p : Pat} {ps : List Pat} {E : RE α} {Q : β → List D → Prop} {x : α} {y : β} {ρ1 : KEnv} (h : BindR p E x ρ ρ1) (t : BindsR ps Q y ρ1 ρ') : BindsR (p :: ps) (qC E Q) (x, y) ρ ρ' := fun ds e ⟨d, r, h1, h2, h3⟩ l => by
  subst h1
  obtain ⟨e1, a1, a2⟩ := h d e h2 l
  obtain ⟨e2, b1, b2⟩ := t r e1 h3 a2
  exact ⟨e2, by unfold Pat.binds; rw [a1]; exact b1, b2⟩
/-- a pair that is a known pair's items, taken apart by name -/
theorem ps_c' {p : Pat} {ps : List Pat} {E : RE α} {Q : β → List D → Prop} {x : α × β} {ρ1 : KEnv} (h : BindR p E x.1 ρ ρ1) (t : BindsR ps Q x.2 ρ1 ρ') : BindsR (p :: ps) (qC E Q) x ρ ρ' := ps_c (x := x.1) (y := x.2) h t
/-- tuples made of items (never a module's constant) -/
def eQ {α : Type} (Q : α → List D → Prop) : RE α := fun a d => ∃ ds, d = .tup ds ∧ Q a ds
theorem p_tp {ps : List Pat} {Q : α → List D → Prop} {x : α} (h : BindsR ps Q x ρ ρ') : BindR (.tp ps) (eQ Q) x ρ ρ' := fun d e ⟨ds, h1, h2⟩ l => by
  subst h1
  exact h ds e h2 l
theorem v_tupQ {fs : DL.Env → Res (List D)} {r : Res α} {Q : α → List D → Prop} (h : EvR ρ fs r Q) : EvR ρ (eTup fs) r (eQ Q) := fun e l => by
  have := h e l
  unfold eTup
  cases r with
  | ok a => obtain ⟨d, e1, h1⟩ := this; rw [e1]; exact ⟨_, rfl, d, rfl, h1⟩
  | exc c fs' => rw [show fs e = _ from this]; rfl
  | bad => trivial
theorem g_asg {al : List Nat} {p : Pat} {f : DL.Env → Res D} {E : RE α} {x : α} (h : EvR ρ f (.ok x) E) (hp : BindR p E x (fzK al ρ) ρ') : Go ρ (sAsg al p f) ρ' := fun e l => by
  obtain ⟨d, h1, h2⟩ := h e l
  obtain ⟨e', a1, a2⟩ := hp d _ h2 (l.fz al)
  exact ⟨e', by rw [sAsg_app, h1]; dsimp only; rw [a1], a2⟩
theorem d_asg {al : List Nat} {p : Pat} {f : DL.Env → Res D} {E : RE α} {x : Res α} {ρs : α → KEnv} (h : EvR ρ f x E) (hp : ∀ v, BindR p E v (fzK al ρ) (ρs v)) : J ρ (sAsg al p f) x (PN ρs) := fun e l => by
  have := h e l
  cases x with
  | ok v =>
    obtain ⟨d, h1, h2⟩ := this
    obtain ⟨e', a1, a2⟩ := hp v d _ h2 (l.fz al)
    exact ⟨e', by rw [sAsg_app, h1]; dsimp only; rw [a1], a2⟩
  | exc cc fs => exact ⟨_, by rw [sAsg_app, show f e = _ from this]⟩
  | bad => trivial
/-- a, b = x, y -/
theorem g_par {i j : Nat} {fa fb : DL.Env → Res D} {E : RE α} {E' : RE β} {x : α} {y : β} (h : EvR ρ fa (.ok x) E) (k : EvR ρ fb (.ok y) E') : Go ρ (sPar [] i j (aCons fa (aCons fb aNil))) ((ρ.set i (some (sh E x))).set j (some (sh E' y))) := fun e l => by
  obtain ⟨d, h1, h2⟩ := h e l
  obtain ⟨d', h3, h4⟩ := k e l
  exact ⟨_, by rw [sPar_app, aCons_app, aCons_app, aNil_app, h1, h3]; rfl, (l.set i ⟨h2, rfl⟩).set j ⟨h4, rfl⟩⟩
theorem d_par {i j : Nat} {fa fb : DL.Env → Res D} {E : RE α} {E' : RE β} {x : Res α} {y : Res β} (h : EvR ρ fa x E) (k : EvR ρ fb y E') : J ρ (sPar [] i j (aCons fa (aCons fb aNil))) (x.bind fun a => y.bind fun b => .ok (a, b)) (PN fun p => (ρ.set i (some (sh E p.1))).set j (some (sh E' p.2))) := fun e l => by
  have h1 := h e l
  have h2 := k e l
  cases x with
  | ok v =>
    obtain ⟨d, a1, a2⟩ := h1
    cases y with
    | ok w =>
      obtain ⟨d', b1, b2⟩ := h2
      exact ⟨_, by rw [sPar_app, aCons_app, aCons_app, aNil_app, a1, b1]; rfl, (l.set i ⟨a2, rfl⟩).set j ⟨b2, rfl⟩⟩
    | exc cc fs => exact ⟨_, by rw [sPar_app, aCons_app, aCons_app, aNil_app, a1, show fb e = _ from h2]; rfl⟩
    | bad => trivial
  | exc cc fs => exact ⟨_, by rw [sPar_app, aCons_app, show fa e = _ from h1]; rfl⟩
  | bad => trivial
/-! ### loops -/
def forR {α S : Type} : List α → S → (α → S → Res S) → Res S
  | [], s, _ => .ok s
  | a :: l, s, f => (f a s).bind fun s' => forR l s' f
def forX {α S R : Type} : List α → S → (α → S → Res (Oc S R)) → Res (Oc S R)
  | [], s, _ => .ok (.nx s)
  | a :: l, s, f => (f a s).bind fun o => match o with
    | .nx s' => forX l s' f
    | .bk s' => .ok (.nx s')
    | .rt v => .ok (.rt v)
theorem turns_R {p : Pat} {E : RE α} {ρs : S → KEnv} {ρb : α → S → KEnv} {f : α → S → Res S} (hp : ∀ x s, BindR p E x (ρs s) (ρb x s)) (hb : ∀ x s, J (ρb x s) b (f x s) (PB ρs)) :
    ∀ {l : List α} {ds : List D} {s : S} {e : DL.Env}, A2 E l ds → Le (ρs s) e → JM (forR l s f) (PN ρs) (turns p b ds e)
  | [], ds, s, e, h, l => by rw [show ds = [] from h]; exact ⟨e, rfl, l⟩
  | x :: xs, _, s, e, ⟨d, r, rfl, h1, h2⟩, l => by
    obtain ⟨e1, a1, a2⟩ := hp x s d e h1 l
    have := hb x s e1 a2
    unfold forR turns
    rw [a1]
    cases q : f x s with
    | ok s' =>
      rw [q] at this
      obtain ⟨e2, b1, b2⟩ := this
      have ih := turns_R hp hb (s := s') h2 b2
      rw [Res.bind_ok]
      rcases b1 with b1 | b1 <;> (dsimp only; rw [b1]; exact ih)
    | exc c fs => rw [q] at this; obtain ⟨e2, b1⟩ := this; exact ⟨e2, by dsimp only; rw [b1]⟩
    | bad => trivial
theorem d_for {al : List Nat} {p : Pat} {fi : DL.Env → Res (List D)} {E : RE α} {xs : Res (List α)} {ρs : S → KEnv} {ρb : α → S → KEnv} {f : α → S → Res S} {s : S}
    (hi : EvR ρ fi xs (A2 E)) (h0 : Sb (ρs s) (fzK al ρ)) (hp : ∀ x s, BindR p E x (ρs s) (ρb x s)) (hb : ∀ x s, J (ρb x s) b (f x s) (PB ρs)) : J ρ (sFor al p fi b) (xs.bind fun l => forR l s f) (PN ρs) := fun e l => by
  have := hi e l
  cases xs with
  | ok xs =>
    obtain ⟨ds, h1, h2⟩ := this
    have t := turns_R hp hb h2 ((l.fz al).less h0)
    rw [sFor_app, h1]
    exact t
  | exc c fs => exact ⟨_, by rw [sFor_app, show fi e = _ from this]⟩
  | bad => trivial
theorem d_forP {al : List Nat} {p : Pat} {fi : DL.Env → Res (List D)} {E : RE α} {xs : List α} {ρs : S → KEnv} {ρb : α → S → KEnv} {f : α → S → Res S} {s : S}
    (hi : EvR ρ fi (.ok xs) (A2 E)) (h0 : Sb (ρs s) (fzK al ρ)) (hp : ∀ x s, BindR p E x (ρs s) (ρb x s)) (hb : ∀ x s, J (ρb x s) b (f x s) (PB ρs)) : J ρ (sFor al p fi b) (forR xs s f) (PN ρs) := d_for hi h0 hp hb
theorem turns_X {p : Pat} {E : RE α} {E' : RE R} {ρs : S → KEnv} {ρb : α → S → KEnv} {f : α → S → Res (Oc S R)} (hp : ∀ x s, BindR p E x (ρs s) (ρb x s)) (hb : ∀ x s, J (ρb x s) b (f x s) (PL ρs E')) :
    ∀ {l : List α} {ds : List D} {s : S} {e : DL.Env}, A2 E l ds → Le (ρs s) e → JM (forX l s f) (PX ρs E') (turns p b ds e)
  | [], ds, s, e, h, l => by rw [show ds = [] from h]; exact ⟨e, rfl, l⟩
  | x :: xs, _, s, e, ⟨d, r, rfl, h1, h2⟩, l => by
    obtain ⟨e1, a1, a2⟩ := hp x s d e h1 l
    have := hb x s e1 a2
    unfold forX turns
    rw [a1]
    cases q : f x s with
    | ok o =>
      rw [q] at this
      cases o with
      | nx s' =>
        obtain ⟨e2, b1, b2⟩ := this
        have ih := turns_X hp hb (s := s') h2 b2
        rw [Res.bind_ok]
        rcases b1 with b1 | b1 <;> (dsimp only; rw [b1]; exact ih)
      | bk s' =>
        obtain ⟨e2, b1, b2⟩ := this
        rw [Res.bind_ok]
        dsimp only
        rw [b1]
        exact ⟨e2, rfl, b2⟩
      | rt v =>
        obtain ⟨d, b1, b2⟩ := this
        rw [Res.bind_ok]
        dsimp only
        rcases b2 with b2 | b2 <;> rw [b2]
        · exact ⟨d, b1, .inl rfl⟩
        · exact ⟨d, b1, .inr rfl⟩
    | exc c fs => rw [q] at this; obtain ⟨e2, b1⟩ := this; exact ⟨e2, by dsimp only; rw [b1]⟩
    | bad => trivial
theorem d_forX {al : List Nat} {p : Pat} {fi : DL.Env → Res (List D)} {E : RE α} {E' : RE R} {xs : Res (List α)} {ρs : S → KEnv} {ρb : α → S → KEnv} {f : α → S → Res (Oc S R)} {s : S}
    (hi : EvR ρ fi xs (A2 E)) (h0 : Sb (ρs s) (fzK al ρ)) (hp : ∀ x s, BindR p E x (ρs s) (ρb x s)) (hb : ∀ x s, J (ρb x s) b (f x s) (PL ρs E')) : J ρ (sFor al p fi b) (xs.bind fun l => forX l s f) (PX ρs E') := fun e l => by
  have := hi e l
  cases xs with
  | ok xs =>
    obtain ⟨ds, h1, h2⟩ := this
    have t := turns_X hp hb h2 ((l.fz al).less h0)
    rw [sFor_app, h1]
    exact t
  | exc c fs => exact ⟨_, by rw [sFor_app, show fi e = _ from this]⟩
  | bad => trivial
theorem d_forXP {al : List Nat} {p : Pat} {fi : DL.Env → Res (List D)} {E : RE α} {E' : RE R} {xs : List α} {ρs : S → KEnv} {ρb : α → S → KEnv} {f : α → S → Res (Oc S R)} {s : S}
    (hi : EvR ρ fi (.ok xs) (A2 E)) (h0 : Sb (ρs s) (fzK al ρ)) (hp : ∀ x s, BindR p E x (ρs s) (ρb x s)) (hb : ∀ x s, J (ρb x s) b (f x s) (PL ρs E')) : J ρ (sFor al p fi b) (forX xs s f) (PX ρs E') := d_forX hi h0 hp hb
/-! while -/
def whN {S R : Type} (c : S → Res Bool) (f : S → Res (Oc S R)) : Nat → S → Res (Oc S R)
  | 0, _ => .bad
  | n + 1, s => (c s).bind fun b => if b = true then (f s).bind fun o => (match o with
    | .nx s' => whN c f n s'
    | .bk s' => .ok (.nx s')
    | .rt v => .ok (.rt v)) else .ok (.nx s)
def Res.fine {α : Type} : Res α → Prop
  | .bad => False
  | _ => True
open Classical in
noncomputable def whX {S R : Type} (c : S → Res Bool) (f : S → Res (Oc S R)) (s : S) : Res (Oc S R) := if h : ∃ n, (whN c f n s).fine then whN c f (Classical.choose h) s else .bad
/-- .. that only goes on -/
noncomputable def whR {S : Type} (c : S → Res Bool) (f : S → Res S) (s : S) : Res S := (whX (R := Empty) c (fun s => (f s).bind fun s' => .ok (.nx s')) s).bind fun o => match o with
  | .nx s' => .ok s'
  | _ => .bad
theorem whN_env {ft : DL.Env → Res Bool} {E' : RE R} {ρs : S → KEnv} {cd : S → Res Bool} {f : S → Res (Oc S R)} (hc : ∀ s, EvR (ρs s) ft (cd s) Tr) (hb : ∀ s, J (ρs s) b (f s) (PL ρs E')) :
    ∀ (n : Nat) (s : S) (e : DL.Env), Le (ρs s) e → JM (whN cd f n s) (PX ρs E') (whileN [] ft b n e)
  | 0, s, e, l => trivial
  | n + 1, s, e, l => by
    have h1 := hc s e l
    unfold whN whileN
    cases q : cd s with
    | ok z =>
      rw [q] at h1
      obtain ⟨y, a1, a2⟩ := h1
      rw [a1, show y = z from a2, Res.bind_ok]
      cases z with
      | false => exact ⟨e, rfl, l⟩
      | true =>
        rw [if_pos rfl]
        have h2 := hb s e l
        cases q2 : f s with
        | ok o =>
          rw [q2] at h2
          cases o with
          | nx s' =>
            obtain ⟨e2, b1, b2⟩ := h2
            have ih := whN_env hc hb n s' e2 b2
            rw [Res.bind_ok]
            dsimp only [fz_nil]
            rcases b1 with b1 | b1 <;> rw [b1] <;> exact ih
          | bk s' =>
            obtain ⟨e2, b1, b2⟩ := h2
            rw [Res.bind_ok]
            dsimp only [fz_nil]
            rw [b1]
            exact ⟨e2, rfl, b2⟩
          | rt v =>
            obtain ⟨d, b1, b2⟩ := h2
            rw [Res.bind_ok]
            dsimp only [fz_nil]
            rcases b2 with b2 | b2 <;> rw [b2]
            · exact ⟨d, b1, .inl rfl⟩
            · exact ⟨d, b1, .inr rfl⟩
        | exc c fs => rw [q2] at h2; obtain ⟨e2, b1⟩ := h2; exact ⟨e2, by dsimp only [fz_nil]; rw [b1]⟩
        | bad => trivial
    | exc c fs => rw [q] at h1; exact ⟨_, by rw [show ft e = _ from h1]⟩
    | bad => trivial
theorem d_whX {ft : DL.Env → Res Bool} {E' : RE R} {ρs : S → KEnv} {cd : S → Res Bool} {f : S → Res (Oc S R)} {s : S} (h0 : Sb (ρs s) ρ) (hc : ∀ s, EvR (ρs s) ft (cd s) Tr) (hb : ∀ s, J (ρs s) b (f s) (PL ρs E')) : J ρ (sWhile [] ft b) (whX cd f s) (PX ρs E') := fun e l => by
  unfold whX
  by_cases h : ∃ n, (whN cd f n s).fine
  · rw [dif_pos h]
    have fin := Classical.choose_spec h
    have t := whN_env hc hb (Classical.choose h) s e (l.less h0)
    have fe : (whileN [] ft b (Classical.choose h) e).fine := by
      cases q : whN cd f (Classical.choose h) s with
      | ok o =>
        rw [q] at t
        cases o with
        | nx s' => obtain ⟨e', t1, _⟩ := t; rw [t1]; trivial
        | bk s' => exact (show False from t).elim
        | rt v => obtain ⟨d, _, t1⟩ := t; rcases t1 with t1 | t1 <;> rw [t1] <;> trivial
      | exc c fs => rw [q] at t; obtain ⟨e', t1⟩ := t; rw [t1]; trivial
      | bad => rw [q] at fin; exact fin.elim
    rw [sWhile_of fe]
    exact t
  · rw [dif_neg h]; trivial
theorem d_whR {ft : DL.Env → Res Bool} {ρs : S → KEnv} {cd : S → Res Bool} {f : S → Res S} {s : S} (h0 : Sb (ρs s) ρ) (hc : ∀ s, EvR (ρs s) ft (cd s) Tr) (hb : ∀ s, J (ρs s) b (f s) (PB ρs)) : J ρ (sWhile [] ft b) (whR cd f s) (PN ρs) := fun e l => by
  have := d_whX (R := Empty) (E' := fun v _ => v.elim) (f := fun s => (f s).bind fun s' => .ok (.nx s')) h0 hc (fun s e l => by
    have := hb s e l
    cases q : f s with
    | ok s' => rw [q] at this; exact this
    | exc c fs => rw [q] at this; exact this
    | bad => trivial) e l
  unfold whR
  cases q : whX (R := Empty) cd (fun s => (f s).bind fun s' => .ok (.nx s')) s with
  | ok o =>
    rw [q] at this
    cases o with
    | nx s' => exact this
    | bk s' => exact (show False from this).elim
    | rt v => exact v.elim
  | exc c fs => rw [q] at this; exact this
  | bad => trivial
/-! ### comprehensions -/
/-- so long that a list of them can be made -/
def Fits (n : Nat) : Prop := n ≤ sizeLine
def mapR {α β : Type} : List α → (α → Res β) → Res (List β)
  | [], _ => .ok []
  | a :: l, f => (f a).bind fun y => (mapR l f).bind fun ys => .ok (y :: ys)
def filR {α β : Type} : List α → (α → Res Bool) → (α → Res β) → Res (List β)
  | [], _, _ => .ok []
  | a :: l, c, f => (c a).bind fun z => if z = true then (f a).bind fun y => (filR l c f).bind fun ys => .ok (y :: ys) else filR l c f
/-- errors within a comprehension are not told -/
def Res.noX {α : Type} : Res α → Res α
  | .exc _ _ => .bad
  | r => r
open Classical in
noncomputable def compR {α β : Type} (l : List α) (f : α → Res β) : Res (List β) := if Fits l.length then (mapR l f).noX else .bad
open Classical in
noncomputable def compF {α β : Type} (l : List α) (c : α → Res Bool) (f : α → Res β) : Res (List β) := if Fits l.length then (filR l c f).noX else .bad
theorem compL_R {p : Pat} {ft : DL.Env → Res Bool} {fe : DL.Env → Res D} {E : RE α} {E' : RE β} {ρ : KEnv} {ρb : α → KEnv} {c : α → Res Bool} {f : α → Res β} (hp : ∀ x, BindR p E x ρ (ρb x)) (hc : ∀ x, EvR (ρb x) ft (c x) Tr) (he : ∀ x, EvR (ρb x) fe (f x) E') :
    ∀ {l : List α} {ds : List D} {e : DL.Env} {ys : List β}, A2 E l ds → Le ρ e → filR l c f = .ok ys → ∃ es, compL e p ft fe ds = .ok es ∧ A2 E' ys es
  | [], ds, e, ys, h, l, q => by
    rw [show ds = [] from h]
    cases (show Res.ok [] = Res.ok ys from q)
    exact ⟨[], rfl, rfl⟩
  | x :: xs, _, e, ys, ⟨d, r, rfl, h1, h2⟩, l, q => by
    obtain ⟨e1, a1, a2⟩ := hp x d e h1 l
    have b1 := hc x e1 a2
    unfold filR at q
    unfold compL
    rw [a1]
    cases hz : c x with
    | ok z =>
      rw [hz, Res.bind_ok] at q
      rw [hz] at b1
      obtain ⟨z', c1, c2⟩ := b1
      dsimp only
      rw [c1, show z' = z from c2]
      cases z with
      | false =>
        rw [if_neg (by simp)] at q
        exact compL_R hp hc he h2 l q
      | true =>
        rw [if_pos rfl] at q
        have b2 := he x e1 a2
        cases hy : f x with
        | ok y =>
          rw [hy, Res.bind_ok] at q
          rw [hy] at b2
          obtain ⟨y', d1, d2⟩ := b2
          cases hr : filR xs c f with
          | ok zs =>
            rw [hr, Res.bind_ok] at q
            cases q
            obtain ⟨es, f1, f2⟩ := compL_R hp hc he h2 l hr
            exact ⟨y' :: es, by dsimp only; rw [d1]; dsimp only; rw [f1]; rfl, y', es, rfl, d2, f2⟩
          | exc cc fs => rw [hr] at q; cases q
          | bad => rw [hr] at q; cases q
        | exc cc fs => rw [hy] at q; cases q
        | bad => rw [hy] at q; cases q
    | exc cc fs => rw [hz] at q; cases q
    | bad => rw [hz] at q; cases q
theorem filR_yes (f : α → Res β) : ∀ l : List α, filR l (fun _ => .ok true) f = mapR l f
  | [] => rfl
  | a :: l => by
    unfold filR mapR
    rw [Res.bind_ok, if_pos rfl, filR_yes f l]
theorem v_compF {own : List Nat} {p : Pat} {fi : DL.Env → Res (List D)} {ft : DL.Env → Res Bool} {fe : DL.Env → Res D} {E : RE α} {E' : RE β} {xs : Res (List α)} {ρb : α → KEnv} {c : α → Res Bool} {f : α → Res β} (hi : EvR ρ fi xs (A2 E))
    (hp : ∀ x, BindR p E x (wipeK ρ own) (ρb x)) (hc : ∀ x, EvR (ρb x) ft (c x) Tr) (he : ∀ x, EvR (ρb x) fe (f x) E') : EvR ρ (eComp own p fi ft fe) (xs.bind fun l => compF l c f) (eL E') := fun e l => by
  unfold eComp
  refine (hi e l).bind fun xs ds h => ?_
  unfold compF
  by_cases hl : Fits xs.length
  · rw [if_pos hl]
    cases q : filR xs c f with
    | ok ys =>
      obtain ⟨es, h1, h2⟩ := compL_R hp hc he h (l.wipe own) q
      rw [if_pos (by rw [A2.length h]; exact hl), h1]
      exact ⟨_, rfl, es, rfl, h2⟩
    | exc cc fs => trivial
    | bad => trivial
  · rw [if_neg hl]; trivial
theorem v_compFP {own : List Nat} {p : Pat} {fi : DL.Env → Res (List D)} {ft : DL.Env → Res Bool} {fe : DL.Env → Res D} {E : RE α} {E' : RE β} {xs : List α} {ρb : α → KEnv} {c : α → Res Bool} {f : α → Res β} (hi : EvR ρ fi (.ok xs) (A2 E))
    (hp : ∀ x, BindR p E x (wipeK ρ own) (ρb x)) (hc : ∀ x, EvR (ρb x) ft (c x) Tr) (he : ∀ x, EvR (ρb x) fe (f x) E') : EvR ρ (eComp own p fi ft fe) (compF xs c f) (eL E') := v_compF hi hp hc he
theorem v_comp {own : List Nat} {p : Pat} {fi : DL.Env → Res (List D)} {fe : DL.Env → Res D} {E : RE α} {E' : RE β} {xs : Res (List α)} {ρb : α → KEnv} {f : α → Res β} (hi : EvR ρ fi xs (A2 E))
    (hp : ∀ x, BindR p E x (wipeK ρ own) (ρb x)) (he : ∀ x, EvR (ρb x) fe (f x) E') : EvR ρ (eComp own p fi bYes fe) (xs.bind fun l => compR l f) (eL E') := by
  have := v_compF (c := fun _ => .ok true) hi hp (fun x e l => ⟨true, rfl, rfl⟩) he
  have q : (fun l => compF l (fun _ => .ok true) f) = fun l => compR l f := by
    funext l
    unfold compF compR
    rw [filR_yes]
  rw [q] at this
  exact this
theorem v_compP {own : List Nat} {p : Pat} {fi : DL.Env → Res (List D)} {fe : DL.Env → Res D} {E : RE α} {E' : RE β} {xs : List α} {ρb : α → KEnv} {f : α → Res β} (hi : EvR ρ fi (.ok xs) (A2 E))
    (hp : ∀ x, BindR p E x (wipeK ρ own) (ρb x)) (he : ∀ x, EvR (ρb x) fe (f x) E') : EvR ρ (eComp own p fi bYes fe) (compR xs f) (eL E') := v_comp hi hp he
/-! ### defs -/
/-- the names at a def's start -/
theorem le_0 {E : RE α} {Q : β → List D → Prop} : True := trivial
theorem Le.rep : ∀ n, Le (List.replicate n none) (List.replicate n none)
  | 0 => rfl
  | n + 1 => ⟨none, List.replicate n none, rfl, fun P h => (by cases h), Le.rep n⟩
def LeA (ds : List D) (ρ : KEnv) : Prop := A2 (fun (r : Option Kn) (d : D) => ∀ P, r = some P → P d false) ρ ds
theorem LeA.nil : LeA [] [] := rfl
theorem LeA.cons {E : RE α} {x : α} {d : D} {ds : List D} {ρ : KEnv} (h : E x d) (t : LeA ds ρ) : LeA (d :: ds) (some (sh E x) :: ρ) := ⟨d, ds, rfl, fun P hP => by cases hP; exact ⟨h, rfl⟩, t⟩
theorem LeA.le : ∀ {ds : List D} {ρ : KEnv} {n : Nat}, LeA ds ρ → Le (ρ ++ List.replicate n none) (ds.map (fun d => some (d, false)) ++ List.replicate n none)
  | ds, [], n, h => by rw [show ds = [] from h]; exact Le.rep n
  | _, r :: ρ, n, ⟨d, ds, rfl, h, t⟩ => ⟨some (d, false), _, rfl, fun P hP => ⟨d, false, rfl, h P hP⟩, LeA.le t⟩
theorem r_def {n m k : Nat} {fb : DL.Env → Out} {ds : List D} {x : Res R} {E : RE R} (h : LeA ds ρ) (hk : m - n = k) (j : J (ρ ++ List.replicate k none) fb x (PT E)) : Rf (runDef n m fb ds) x E := by
  subst hk
  have := j _ h.le
  unfold runDef env0
  cases x with
  | ok v =>
    obtain ⟨d, h1, h2⟩ := this
    rcases h2 with h2 | h2 | ⟨⟨e, h2⟩, h3⟩
    · rw [h2]; exact ⟨d, rfl, h1⟩
    · rw [h2]; exact ⟨d, rfl, h1⟩
    · rw [h2]; subst h3; exact ⟨_, rfl, h1⟩
  | exc c fs => obtain ⟨e', h2⟩ := this; rw [h2]; rfl
  | bad => trivial
end
end DL

/-! Typed readings: the operations. -/
namespace DL
open PySem PySem.Spec PyProof.Rows L2
open PySem.Builtin.Int (intBits)

/-! ### whole numbers -/
def MulOk (i j : Int) : Prop := intBits i + intBits j ≤ big
def DivOk (j : Int) : Prop := j ≠ 0 ∧ j.natAbs.log2 < 9000
def PowOk (i j : Int) : Prop := 0 ≤ j ∧ (intBits i : Int) * j ≤ 2 ^ 27
open Classical in
noncomputable def mulR (i j : Int) : Res Int := if MulOk i j then .ok (i * j) else .bad
open Classical in
noncomputable def divR (i j : Int) : Res Int := if DivOk j then .ok (i.fdiv j) else .bad
open Classical in
noncomputable def modR (i j : Int) : Res Int := if j ≠ 0 then .ok (i.fmod j) else .bad
open Classical in
noncomputable def powR (i j : Int) : Res Int := if PowOk i j then .ok (i ^ j.toNat) else .bad
theorem mulR_ok {n m : Nat} {i j : Int} (h : Sm n i) (k : Sm m j) (l : n + m ≤ big) : mulR i j = .ok (i * j) := if_pos (h.two k l)
theorem divR_pos {i j : Int} {n : Nat} (h : 0 < j) (k : Sm n j) (l : n ≤ 8999) : divR i j = .ok (i / j) := by
  unfold divR
  rw [if_pos ⟨by omega, k.lg l⟩, Int.fdiv_eq_ediv_of_nonneg _ (by omega)]
theorem modR_pos {i j : Int} (h : 0 < j) : modR i j = .ok (i % j) := by
  unfold modR
  rw [if_pos (by omega), Int.fmod_eq_emod_of_nonneg _ (by omega)]
section
variable {α β γ : Type}
theorem o_add (a b : Int) : ∀ x y, eI a x → eI b y → Rf (dAdd x y) (.ok (a + b)) eI := by rintro _ _ rfl rfl; exact ⟨_, rfl, rfl⟩
theorem o_sub (a b : Int) : ∀ x y, eI a x → eI b y → Rf (dSub x y) (.ok (a - b)) eI := by rintro _ _ rfl rfl; exact ⟨_, rfl, rfl⟩
theorem o_mul (a b : Int) : ∀ x y, eI a x → eI b y → Rf (dMul x y) (mulR a b) eI := by
  rintro _ _ rfl rfl
  unfold mulR
  by_cases h : MulOk a b
  · rw [if_pos h]; exact ⟨_, if_pos h, rfl⟩
  · rw [if_neg h]; trivial
theorem o_div (a b : Int) : ∀ x y, eI a x → eI b y → Rf (dDiv x y) (divR a b) eI := by
  rintro _ _ rfl rfl
  unfold divR
  by_cases h : DivOk b
  · rw [if_pos h]; exact ⟨_, if_pos h, rfl⟩
  · rw [if_neg h]; trivial
theorem o_mod (a b : Int) : ∀ x y, eI a x → eI b y → Rf (dMod x y) (modR a b) eI := by
  rintro _ _ rfl rfl
  unfold modR
  by_cases h : b ≠ 0
  · rw [if_pos h]; exact ⟨_, if_pos h, rfl⟩
  · rw [if_neg h]; trivial
theorem o_pow (a b : Int) : ∀ x y, eI a x → eI b y → Rf (dPow x y) (powR a b) eI := by
  rintro _ _ rfl rfl
  unfold powR
  by_cases h : PowOk a b
  · rw [if_pos h]; exact ⟨_, if_pos h, rfl⟩
  · rw [if_neg h]; trivial
/-- by a written number above nought -/
theorem o_divL {b : Int} (a : Int) (h : 0 < b) (k : b < 18446744073709551616) : ∀ x y, eI a x → eI b y → Rf (dDiv x y) (.ok (a / b)) eI := by
  rintro _ _ rfl rfl; exact ⟨_, dDiv_lit _ _ h k, rfl⟩
theorem o_modL {b : Int} (a : Int) (h : 0 < b) : ∀ x y, eI a x → eI b y → Rf (dMod x y) (.ok (a % b)) eI := by
  rintro _ _ rfl rfl; exact ⟨_, dMod_lit _ _ h, rfl⟩
theorem o_powL {a b c : Int} (h : dPow (.int a) (.int b) = .ok (.int c)) : ∀ x y, eI a x → eI b y → Rf (dPow x y) (.ok c) eI := by
  rintro _ _ rfl rfl; exact ⟨_, h, rfl⟩
theorem v_neg {ρ : KEnv} {f : DL.Env → Res D} {a : Int} (h : EvR ρ f (.ok a) eI) : EvR ρ (eNeg f) (.ok (-a)) eI := fun e l => by
  obtain ⟨d, h1, h2⟩ := h e l
  exact ⟨_, by rw [eNeg_app, h1, show d = _ from h2]; rfl, rfl⟩
theorem v_negM {ρ : KEnv} {f : DL.Env → Res D} {r : Res Int} (h : EvR ρ f r eI) : EvR ρ (eNeg f) (r.bind fun a => .ok (-a)) eI := fun e l => by
  rw [eNeg_app]
  exact (h e l).bind fun a d hd => by rw [show d = _ from hd]; exact ⟨_, rfl, rfl⟩
theorem o_lt (a b : Int) : ∀ x y, eI a x → eI b y → Rf (dLt x y) (.ok (decide (a < b))) eB := by rintro _ _ rfl rfl; exact ⟨_, dLt_int a b, rfl⟩
theorem o_le (a b : Int) : ∀ x y, eI a x → eI b y → Rf (dLe x y) (.ok (decide (a ≤ b))) eB := by rintro _ _ rfl rfl; exact ⟨_, dLe_int a b, rfl⟩
theorem o_gt (a b : Int) : ∀ x y, eI a x → eI b y → Rf (dGt x y) (.ok (decide (b < a))) eB := by rintro _ _ rfl rfl; exact ⟨_, dGt_int a b, rfl⟩
theorem o_ge (a b : Int) : ∀ x y, eI a x → eI b y → Rf (dGe x y) (.ok (decide (b ≤ a))) eB := by rintro _ _ rfl rfl; exact ⟨_, dGe_int a b, rfl⟩
theorem o_ltR (a b : List Int) : ∀ x y, eR a x → eR b y → Rf (dLt x y) (.ok (decide (lexB a b = true))) eB := by rintro _ _ rfl rfl; exact ⟨_, dLt_ans a b, by simp [eB]⟩
theorem o_max (a b : Int) : ∀ x y, eI a x → eI b y → Rf (dMax x y) (.ok (max a b)) eI := by
  rintro _ _ rfl rfl
  refine ⟨_, dMax_int a b, ?_⟩
  show D.int _ = D.int _
  congr 1
  split <;> omega
theorem o_min (a b : Int) : ∀ x y, eI a x → eI b y → Rf (dMin x y) (.ok (min a b)) eI := by
  rintro _ _ rfl rfl
  refine ⟨_, dMin_int a b, ?_⟩
  show D.int _ = D.int _
  congr 1
  split <;> omega
theorem o_abs (a : Int) : ∀ x, eI a x → Rf (dAbs x) (.ok (a.natAbs : Int)) eI := by rintro _ rfl; exact ⟨_, dAbs_int a, rfl⟩
theorem o_intI (a : Int) : ∀ x, eI a x → Rf (dInt x) (.ok a) eI := by rintro _ rfl; exact ⟨_, rfl, rfl⟩
theorem o_intB (b : Bool) : ∀ x, eB b x → Rf (dInt x) (.ok (if b = true then 1 else 0)) eI := by rintro _ rfl; exact ⟨_, rfl, rfl⟩
theorem o_strB (b : Bool) : ∀ x, eB b x → Rf (dStr x) (.ok (if b = true then ("True" : Str) else ("False" : Str))) eS := by rintro _ rfl; exact ⟨_, rfl, rfl⟩
/-! ### equality -/
structure EqE {α : Type} [DecidableEq α] (E : RE α) (n : Nat) : Prop where
  pl : ∀ a d, E a d → d.pl n = true
  beq : ∀ a b x y, E a x → E b y → PyData.eqv x.py y.py = decide (a = b)
structure EqQ {α : Type} [DecidableEq α] (Q : α → List D → Prop) (n : Nat) : Prop where
  pl : ∀ a d, Q a d → D.pls d n = true
  beq : ∀ a b x y, Q a x → Q b y → PyData.eqvAll (D.pys x) (D.pys y) = decide (a = b)
theorem EqE.int (n : Nat) : EqE eI n := ⟨by rintro a _ rfl; rfl, by
  rintro a b _ _ rfl rfl
  simp [D.py, PyData.eqv]
  exact Bool.eq_iff_iff.mpr (by simp)⟩
theorem EqE.bl (n : Nat) : EqE eB n := ⟨by rintro a _ rfl; rfl, by
  rintro a b _ _ rfl rfl
  cases a <;> cases b <;> rfl⟩
theorem EqE.row (n : Nat) : EqE eR (n + 1) := ⟨by rintro a _ rfl; exact ans_pl a n, by rintro a b _ _ rfl rfl; exact beq_ans a b⟩
theorem a2_pls [DecidableEq α] {E : RE α} {n : Nat} (h : EqE E n) : ∀ {l : List α} {ds : List D}, A2 E l ds → D.pls ds n = true
  | [], _, e => by rw [show _ = [] from e]; rfl
  | a :: l, _, ⟨d, r, rfl, x, y⟩ => by rw [D.pls, h.pl a d x, a2_pls h y]; rfl
theorem a2_eqvs [DecidableEq α] {E : RE α} {n : Nat} (h : EqE E n) : ∀ {l l' : List α} {ds es : List D}, A2 E l ds → A2 E l' es → PyData.eqvAll (D.pys ds) (D.pys es) = decide (l = l')
  | [], [], _, _, e, f => by rw [show _ = [] from e, show _ = [] from f]; simp [D.pys, PyData.eqvAll]
  | [], _ :: _, _, _, e, ⟨d, r, rfl, _, _⟩ => by rw [show _ = [] from e]; simp [D.pys, PyData.eqvAll]
  | _ :: _, [], _, _, ⟨d, r, rfl, _, _⟩, f => by rw [show _ = [] from f]; simp [D.pys, PyData.eqvAll]
  | a :: l, b :: l', _, _, ⟨d, r, rfl, x1, x2⟩, ⟨d', r', rfl, y1, y2⟩ => by
    simp only [D.pys, PyData.eqvAll, h.beq a b d d' x1 y1, a2_eqvs h x2 y2]
    by_cases h1 : a = b <;> by_cases h2 : l = l' <;> simp [h1, h2]
theorem EqE.lst [DecidableEq α] {E : RE α} {n : Nat} (h : EqE E n) : EqE (eL E) (n + 1) := ⟨by
  rintro a _ ⟨ds, rfl, r⟩; exact a2_pls h r, by
  rintro a b _ _ ⟨ds, rfl, r⟩ ⟨es, rfl, s⟩
  rw [D.py, D.py, PyData.eqv]; exact a2_eqvs h r s⟩
theorem EqE.tup [DecidableEq α] {E : RE α} {n : Nat} (h : EqE E n) : EqE (eT E) (n + 1) := ⟨by
  rintro a _ ⟨ds, rfl, r⟩; exact a2_pls h r, by
  rintro a b _ _ ⟨ds, rfl, r⟩ ⟨es, rfl, s⟩
  rw [D.py, D.py, PyData.eqv]; exact a2_eqvs h r s⟩
theorem EqQ.one [DecidableEq α] {E : RE α} {n : Nat} (h : EqE E n) : EqQ (q1 E) n := ⟨by
  rintro a _ ⟨d, rfl, r⟩; simp [D.pls, h.pl a d r], by
  rintro a b _ _ ⟨d, rfl, r⟩ ⟨d', rfl, r'⟩
  simp only [D.pys, PyData.eqvAll, h.beq a b d d' r r', Bool.and_true]⟩
theorem EqQ.c [DecidableEq α] [DecidableEq β] {E : RE α} {Q : β → List D → Prop} {n : Nat} (h : EqE E n) (k : EqQ Q n) : EqQ (qC E Q) n := ⟨by
  rintro a _ ⟨d, r, rfl, h1, h2⟩; simp [D.pls, h.pl _ d h1, k.pl _ r h2], by
  rintro a b _ _ ⟨d, r, rfl, h1, h2⟩ ⟨d', r', rfl, h3, h4⟩
  simp only [D.pys, PyData.eqvAll, h.beq _ _ d d' h1 h3, k.beq _ _ r r' h2 h4]
  obtain ⟨a1, a2⟩ := a
  obtain ⟨b1, b2⟩ := b
  by_cases h1 : a1 = b1 <;> by_cases h2 : a2 = b2 <;> simp [h1, h2]⟩
theorem EqE.p [DecidableEq α] {Q : α → List D → Prop} {n : Nat} (h : EqQ Q n) : EqE (eP Q) (n + 1) := ⟨by
  rintro a _ ⟨ds, rfl | rfl, r⟩ <;> exact h.pl _ _ r, by
  rintro a b _ _ ⟨ds, rfl | rfl, r⟩ ⟨es, rfl | rfl, s⟩ <;> (rw [D.py, D.py, PyData.eqv]; exact h.beq _ _ _ _ r s)⟩
theorem EqE.q [DecidableEq α] {Q : α → List D → Prop} {n : Nat} (h : EqQ Q n) : EqE (eQ Q) (n + 1) := ⟨by
  rintro a _ ⟨ds, rfl, r⟩; exact h.pl _ _ r, by
  rintro a b _ _ ⟨ds, rfl, r⟩ ⟨es, rfl, s⟩
  rw [D.py, D.py, PyData.eqv]; exact h.beq _ _ _ _ r s⟩
theorem eqv_ints (a b : List Int) : PyData.eqvAll (D.pys (a.map D.int)) (D.pys (b.map D.int)) = decide (a = b) := a2_eqvs (EqE.int 1) (A2.fn.mpr rfl) (A2.fn.mpr rfl)
theorem rat_ext_iff {x y : Rat} : x = y ↔ x.num = y.num ∧ x.den = y.den := ⟨fun h => by rw [h]; exact ⟨rfl, rfl⟩, fun h => Rat.ext h.1 h.2⟩
theorem EqE.share (n : Nat) : EqE eH (n + 1) := ⟨by rintro a _ (rfl | rfl) <;> rfl, by
  have key : ∀ a b : Rat, PyData.eqvAll (D.pys [.int a.num, .int a.den]) (D.pys [.int b.num, .int b.den]) = decide (a = b) := fun a b => by
    rw [show ([.int a.num, .int a.den] : List D) = [a.num, (a.den : Int)].map D.int from rfl, show ([.int b.num, .int b.den] : List D) = [b.num, (b.den : Int)].map D.int from rfl, eqv_ints]
    exact decide_eq_decide.mpr ⟨fun h => by
      simp only [List.cons.injEq] at h
      exact rat_ext_iff.mpr ⟨h.1, Int.ofNat.inj h.2.1⟩, fun h => by rw [h]⟩
  rintro a b _ _ (rfl | rfl) (rfl | rfl) <;> (simp only [shr, D.py]; rw [PyData.eqv]; exact key a b)⟩
theorem dEq_of {x y : D} {b : Bool} (h : x.pl 60 = true) (k : y.pl 60 = true) (e : PyData.eqv x.py y.py = b) : dEq x y = .ok (.bl b) := by
  cases x with
  | str s =>
    cases y with
    | str t =>
      subst e
      simp [dEq, D.py, PyData.eqv]
      exact Bool.eq_iff_iff.mpr (by simp)
    | _ => simp only [dEq]; rw [if_pos ⟨h, k⟩, D.beq, e]
  | _ => simp only [dEq]; rw [if_pos ⟨h, k⟩, D.beq, e]
theorem dNe_of {x y : D} {b : Bool} (h : x.pl 60 = true) (k : y.pl 60 = true) (e : PyData.eqv x.py y.py = b) : dNe x y = .ok (.bl (!b)) := by
  cases x with
  | str s =>
    cases y with
    | str t =>
      subst e
      simp [dNe, D.py, PyData.eqv]
      exact Bool.eq_iff_iff.mpr (by simp)
    | _ => simp only [dNe]; rw [if_pos ⟨h, k⟩, D.beq, e]
  | _ => simp only [dNe]; rw [if_pos ⟨h, k⟩, D.beq, e]
theorem o_eq [DecidableEq α] {E : RE α} (h : EqE E 60) (a b : α) : ∀ x y, E a x → E b y → Rf (dEq x y) (.ok (decide (a = b))) eB := fun x y hx hy =>
  ⟨_, dEq_of (h.pl a x hx) (h.pl b y hy) (h.beq a b x y hx hy), rfl⟩
theorem o_ne [DecidableEq α] {E : RE α} (h : EqE E 60) (a b : α) : ∀ x y, E a x → E b y → Rf (dNe x y) (.ok (decide (a ≠ b))) eB := fun x y hx hy =>
  ⟨_, dNe_of (h.pl a x hx) (h.pl b y hy) (h.beq a b x y hx hy), by simp [eB]⟩
theorem o_eqS (a b : Str) : ∀ x y, eS a x → eS b y → Rf (dEq x y) (.ok (decide (a = b))) eB := by rintro _ _ rfl rfl; exact ⟨_, dEq_str a b, rfl⟩
theorem o_neS (a b : Str) : ∀ x y, eS a x → eS b y → Rf (dNe x y) (.ok (decide (a ≠ b))) eB := by rintro _ _ rfl rfl; exact ⟨_, dNe_str a b, by simp [eB]⟩
/-! ### raw data -/
def rawB (r : Res D) : Res Bool := r.bind D.asB
theorem o_raw (g : D → D → Res D) (a b : D) : ∀ x y, eD a x → eD b y → Rf (g x y) (g a b) eD := by
  rintro _ _ rfl rfl
  cases g _ _ with
  | ok d => exact ⟨d, rfl, rfl⟩
  | exc c fs => rfl
  | bad => trivial
theorem rf_rawB (r : Res D) : Rf r (rawB r) eB := by
  unfold rawB
  cases r with
  | ok d =>
    cases d with
    | bl b => exact ⟨_, rfl, rfl⟩
    | _ => trivial
  | exc c fs => rfl
  | bad => trivial
theorem o_rawB (g : D → D → Res D) (a b : D) : ∀ x y, eD a x → eD b y → Rf (g x y) (rawB (g a b)) eB := by
  rintro _ _ rfl rfl
  exact rf_rawB _
theorem o_raw1 (g : D → Res D) (a : D) : ∀ x, eD a x → Rf (g x) (g a) eD := by
  rintro _ rfl
  cases g _ with
  | ok d => exact ⟨d, rfl, rfl⟩
  | exc c fs => rfl
  | bad => trivial
theorem o_raw1B (g : D → Res D) (a : D) : ∀ x, eD a x → Rf (g x) (rawB (g a)) eB := by
  rintro _ rfl
  exact rf_rawB _
def D.asI : D → Res Int
  | .int i => .ok i
  | _ => .bad
def D.asS : D → Res Str
  | .str i => .ok i
  | _ => .bad
def D.asItems : D → Res (List D)
  | .lst xs => .ok xs
  | .tup xs => .ok xs
  | .con xs => .ok xs
  | _ => .bad
def D.asL : D → Res (List D)
  | .lst xs => .ok xs
  | _ => .bad
def D.asT : D → Res (List D)
  | .tup xs => .ok xs
  | _ => .bad
def asIs : List D → Res (List Int)
  | [] => .ok []
  | .int i :: r => (asIs r).bind fun l => .ok (i :: l)
  | _ => .bad
def D.asR : D → Res (List Int)
  | .tup xs => asIs xs
  | _ => .bad
theorem asIs_ok : ∀ {ds : List D} {l : List Int}, asIs ds = .ok l → ds = l.map D.int
  | [], l, h => by cases h; rfl
  | .int i :: r, l, h => by
    unfold asIs at h
    cases q : asIs r with
    | ok l' => rw [q] at h; cases h; rw [asIs_ok q]; rfl
    | exc c fs => rw [q] at h; cases h
    | bad => rw [q] at h; cases h
  | .non :: _, _, h => by cases h
  | .bl _ :: _, _, h => by cases h
  | .str _ :: _, _, h => by cases h
  | .obj _ :: _, _, h => by cases h
  | .tup _ :: _, _, h => by cases h
  | .con _ :: _, _, h => by cases h
  | .lst _ :: _, _, h => by cases h
  | .dct _ _ :: _, _, h => by cases h
@[simp] theorem asIs_ints : ∀ l : List Int, asIs (l.map D.int) = .ok l
  | [] => rfl
  | i :: l => by rw [List.map_cons, asIs, asIs_ints l]; rfl
@[simp] theorem asR_ans (l : List Int) : D.asR (ans l) = .ok l := asIs_ints l
theorem asIs_nx : ∀ (ds : List D) (c : String) (fs : List D), asIs ds ≠ .exc c fs
  | [], c, fs, h => by cases h
  | .int i :: r, c, fs, h => by
    unfold asIs at h
    have := asIs_nx r
    cases q : asIs r with
    | ok l' => rw [q] at h; cases h
    | exc c' fs' => exact this _ _ q
    | bad => rw [q] at h; cases h
  | .non :: _, _, _, h => by cases h
  | .bl _ :: _, _, _, h => by cases h
  | .str _ :: _, _, _, h => by cases h
  | .obj _ :: _, _, _, h => by cases h
  | .tup _ :: _, _, _, h => by cases h
  | .con _ :: _, _, _, h => by cases h
  | .lst _ :: _, _, _, h => by cases h
  | .dct _ _ :: _, _, _, h => by cases h
section
variable {ρ : KEnv} {f : DL.Env → Res D} {r : Res D}
theorem v_asI (h : EvR ρ f r eD) : EvR ρ f (r.bind D.asI) eI := v_as h (fun a d c h1 h2 => by
  rw [show d = a from h1]; cases a <;> cases h2; rfl) fun a c fs h => by cases a <;> cases h
theorem v_asB (h : EvR ρ f r eD) : EvR ρ f (r.bind D.asB) eB := v_as h (fun a d c h1 h2 => by
  rw [show d = a from h1]; cases a <;> cases h2; rfl) fun a c fs h => by cases a <;> cases h
theorem v_asS (h : EvR ρ f r eD) : EvR ρ f (r.bind D.asS) eS := v_as h (fun a d c h1 h2 => by
  rw [show d = a from h1]; cases a <;> cases h2; rfl) fun a c fs h => by cases a <;> cases h
theorem v_asL (h : EvR ρ f r eD) : EvR ρ f (r.bind D.asL) (eL eD) := v_as h (fun a d c h1 h2 => by
  rw [show d = a from h1]; cases a <;> cases h2; exact ⟨_, rfl, A2.fn.mpr (by simp)⟩) fun a c fs h => by cases a <;> cases h
theorem v_asT (h : EvR ρ f r eD) : EvR ρ f (r.bind D.asT) (eT eD) := v_as h (fun a d c h1 h2 => by
  rw [show d = a from h1]; cases a <;> cases h2; exact ⟨_, rfl, A2.fn.mpr (by simp)⟩) fun a c fs h => by cases a <;> cases h
theorem v_asR (h : EvR ρ f r eD) : EvR ρ f (r.bind D.asR) eR := v_as h (fun a d c h1 h2 => by
  rw [show d = a from h1]
  cases a with
  | tup xs => rw [asIs_ok h2]; rfl
  | _ => cases h2) fun a c fs h => by
  cases a with
  | tup xs => exact asIs_nx _ _ _ h
  | _ => cases h
/-- what is walked, raw -/
theorem v_seqD (h : EvR ρ f r eD) : EvR ρ (iSeq f) (r.bind D.asItems) (A2 eD) := fun e l => by
  rw [iSeq_app]
  exact (h e l).bind fun a d hd => by
    rw [show d = a from hd]
    cases a <;> first | trivial | exact ⟨_, rfl, A2.fn.mpr (by simp)⟩
theorem b_truD (h : EvR ρ f r eD) : EvR ρ (bTruth f) (r.bind D.truth) Tr := fun e l => by
  rw [bTruth_app]
  exact (h e l).bind fun a d hd => by
    rw [show d = a from hd]
    cases D.truth a with
    | ok b => exact ⟨b, rfl, rfl⟩
    | exc c fs => rfl
    | bad => trivial
end
/-! ### lists and tuples -/
def getL {α : Type} (l : List α) (i : Int) : Res α := match atI l i with
  | some a => .ok a
  | none => .bad
theorem atI_A2 {E : RE α} {l : List α} {ds : List D} (h : A2 E l ds) {i : Int} {a : α} (q : atI l i = some a) : ∃ d, atI ds i = some d ∧ E a d := by
  unfold atI at q ⊢
  rw [h.length]
  cases k : ixN l.length i with
  | none => rw [k] at q; cases q
  | some j => rw [k] at q; exact h.get q
theorem o_ixA {x : D} (h : ∀ t kvs, x ≠ .dct t kvs) (y : D) : dIxA x y = dIx x y := by
  unfold dIxA
  cases x with
  | dct t kvs => exact absurd rfl (h t kvs)
  | _ => rfl
theorem o_ixL {E : RE α} (l : List α) (i : Int) : ∀ x y, eL E l x → eI i y → Rf (dIx x y) (getL l i) E := by
  rintro _ _ ⟨ds, rfl, r⟩ rfl
  unfold getL
  cases q : atI l i with
  | none => trivial
  | some a => obtain ⟨d, h1, h2⟩ := atI_A2 r q; exact ⟨d, by simp [dIx, h1], h2⟩
theorem o_ixT {E : RE α} (l : List α) (i : Int) : ∀ x y, eT E l x → eI i y → Rf (dIx x y) (getL l i) E := by
  rintro _ _ ⟨ds, rfl, r⟩ rfl
  unfold getL
  cases q : atI l i with
  | none => trivial
  | some a => obtain ⟨d, h1, h2⟩ := atI_A2 r q; exact ⟨d, by simp [dIx, h1], h2⟩
theorem o_ixR (l : List Int) (i : Int) : ∀ x y, eR l x → eI i y → Rf (dIx x y) (getL l i) eI := by
  rintro _ y rfl h
  exact o_ixT (E := eI) l i _ y ⟨_, rfl, A2.fn.mpr rfl⟩ h
theorem o_ixAL {E : RE α} (l : List α) (i : Int) : ∀ x y, eL E l x → eI i y → Rf (dIxA x y) (getL l i) E := fun x y h k => by
  rw [o_ixA (by obtain ⟨ds, rfl, r⟩ := h; intros; simp)]
  exact o_ixL l i x y h k
theorem o_ixAT {E : RE α} (l : List α) (i : Int) : ∀ x y, eT E l x → eI i y → Rf (dIxA x y) (getL l i) E := fun x y h k => by
  rw [o_ixA (by obtain ⟨ds, rfl, r⟩ := h; intros; simp)]
  exact o_ixT l i x y h k
theorem o_ixAR (l : List Int) (i : Int) : ∀ x y, eR l x → eI i y → Rf (dIxA x y) (getL l i) eI := fun x y h k => by
  rw [o_ixA (by rw [show x = _ from h]; intros; simp [ans])]
  exact o_ixR l i x y h k
@[simp] theorem getL_zero (a : α) (l : List α) : getL (a :: l) 0 = .ok a := by simp [getL, atI, ixN]
theorem getL_nat {l : List α} {i : Nat} {a : α} (h : l[i]? = some a) : getL l (i : Int) = .ok a := by
  unfold getL
  rw [atI_nat h]
theorem getL_last (l : List α) (a : α) : getL (l ++ [a]) (-1) = .ok a := by
  unfold getL
  rw [atI_last]
/-- some item stands at every place, told from either end -/
theorem getL_mem {l : List α} {i : Int} (h : -(l.length : Int) ≤ i) (k : i < l.length) : ∃ a ∈ l, getL l i = .ok a := by
  obtain ⟨j, a, b⟩ := ixN_of h k
  exact ⟨l[j], List.getElem_mem _, by simp [getL, atI, a, b]⟩
/-- items of tuples of a known form -/
def IxQ {α β : Type} (Q : α → List D → Prop) (k : Nat) (E : RE β) (f : α → β) : Prop := ∀ a ds, Q a ds → ∃ d, ds[k]? = some d ∧ E (f a) d
theorem IxQ.z {E : RE α} {Q : β → List D → Prop} : IxQ (qC E Q) 0 E (·.1) := fun a ds ⟨d, r, h, h1, _⟩ => ⟨d, by rw [h]; rfl, h1⟩
theorem IxQ.l {E : RE α} : IxQ (q1 E) 0 E (fun a => a) := fun a ds ⟨d, h, h1⟩ => ⟨d, by rw [h]; rfl, h1⟩
theorem IxQ.s {E' : RE γ} {Q : α → List D → Prop} {k : Nat} {E : RE β} {f : α → β} (h : IxQ Q k E f) : IxQ (qC E' Q) (k + 1) E (fun p => f p.2) := fun a ds ⟨d, r, e, _, h1⟩ => by
  obtain ⟨x, a1, a2⟩ := h _ _ h1
  exact ⟨x, by rw [e]; exact a1, a2⟩
theorem o_ixP {Q : α → List D → Prop} {k : Nat} {E : RE β} {f : α → β} (h : IxQ Q k E f) (a : α) : ∀ x y, eP Q a x → eI (k : Int) y → Rf (dIx x y) (.ok (f a)) E := by
  rintro _ _ ⟨ds, hd, q⟩ rfl
  obtain ⟨d, a1, a2⟩ := h a ds q
  have := atI_nat a1
  rcases hd with rfl | rfl <;> exact ⟨d, by simp [dIx, this], a2⟩
theorem o_ixQ {Q : α → List D → Prop} {k : Nat} {E : RE β} {f : α → β} (h : IxQ Q k E f) (a : α) : ∀ x y, eQ Q a x → eI (k : Int) y → Rf (dIx x y) (.ok (f a)) E := by
  rintro _ _ ⟨ds, rfl, q⟩ rfl
  obtain ⟨d, a1, a2⟩ := h a ds q
  exact ⟨d, by simp [dIx, atI_nat a1], a2⟩
theorem o_h0 (a : Rat) : ∀ x y, eH a x → eI 0 y → Rf (dIx x y) (.ok a.num) eI := by
  rintro _ _ (rfl | rfl) rfl
  · exact ⟨_, shr_0 a, rfl⟩
  · exact ⟨_, by simp [dIx, atI, ixN], rfl⟩
theorem o_h1 (a : Rat) : ∀ x y, eH a x → eI 1 y → Rf (dIx x y) (.ok (a.den : Int)) eI := by
  rintro _ _ (rfl | rfl) rfl
  · exact ⟨_, shr_1 a, rfl⟩
  · exact ⟨_, by simp [dIx, atI, ixN], rfl⟩
/-- a share is a pair of whole numbers -/
theorem h_pair (a : Rat) : ∀ d, eH a d → eP (qC eI (q1 eI)) (a.num, (a.den : Int)) d := by
  rintro _ (rfl | rfl)
  · exact ⟨_, .inl rfl, _, _, rfl, rfl, _, rfl, rfl⟩
  · exact ⟨_, .inr rfl, _, _, rfl, rfl, _, rfl, rfl⟩
theorem q_p {Q : α → List D → Prop} (a : α) : ∀ d, eQ Q a d → eP Q a d := fun d ⟨ds, h, q⟩ => ⟨ds, .inl h, q⟩
theorem r_t (a : List Int) : ∀ d, eR a d → eT eI a d := fun d h => ⟨_, h, A2.fn.mpr rfl⟩
theorem t_r (a : List Int) : ∀ d, eT eI a d → eR a d := fun d ⟨ds, h, r⟩ => by rw [h, A2.fn.mp r]; rfl
theorem o_lenL {E : RE α} (l : List α) : ∀ x, eL E l x → Rf (dLen x) (.ok (l.length : Int)) eI := by rintro _ ⟨ds, rfl, r⟩; exact ⟨_, rfl, by rw [← r.length]; rfl⟩
theorem o_lenT {E : RE α} (l : List α) : ∀ x, eT E l x → Rf (dLen x) (.ok (l.length : Int)) eI := by rintro _ ⟨ds, rfl, r⟩; exact ⟨_, rfl, by rw [← r.length]; rfl⟩
theorem o_lenR (l : List Int) : ∀ x, eR l x → Rf (dLen x) (.ok (l.length : Int)) eI := by rintro _ rfl; exact ⟨_, rfl, by simp [eI]⟩
theorem o_tupL {E : RE α} (l : List α) : ∀ x, eL E l x → Rf (dTuple x) (.ok l) (eT E) := by rintro _ ⟨ds, rfl, r⟩; exact ⟨_, rfl, ds, rfl, r⟩
theorem o_tupT {E : RE α} (l : List α) : ∀ x, eT E l x → Rf (dTuple x) (.ok l) (eT E) := by rintro _ ⟨ds, rfl, r⟩; exact ⟨_, rfl, ds, rfl, r⟩
theorem o_tupLR (l : List Int) : ∀ x, eL eI l x → Rf (dTuple x) (.ok l) eR := by rintro _ ⟨ds, rfl, r⟩; exact ⟨_, rfl, by rw [A2.fn.mp r]; rfl⟩
theorem o_tupR (l : List Int) : ∀ x, eR l x → Rf (dTuple x) (.ok l) eR := by rintro _ rfl; exact ⟨_, rfl, rfl⟩
theorem o_lstL {E : RE α} (l : List α) : ∀ x, eL E l x → Rf (dList x) (.ok l) (eL E) := by rintro _ ⟨ds, rfl, r⟩; exact ⟨_, rfl, ds, rfl, r⟩
theorem o_lstT {E : RE α} (l : List α) : ∀ x, eT E l x → Rf (dList x) (.ok l) (eL E) := by rintro _ ⟨ds, rfl, r⟩; exact ⟨_, rfl, ds, rfl, r⟩
theorem o_lstR (l : List Int) : ∀ x, eR l x → Rf (dList x) (.ok l) (eL eI) := by rintro _ rfl; exact ⟨_, rfl, _, rfl, A2.fn.mpr rfl⟩
theorem o_sum (l : List Int) : ∀ x, eL eI l x → Rf (dSum x) (.ok l.sum) eI := by rintro _ ⟨ds, rfl, r⟩; rw [A2.fn.mp r]; exact ⟨_, dSum_ints l, rfl⟩
theorem bls_of : ∀ l : List Bool, D.bls (l.map D.bl) = some l
  | [] => rfl
  | b :: l => by rw [List.map_cons, D.bls, bls_of l]; rfl
theorem o_all (l : List Bool) : ∀ x, eL eB l x → Rf (dAll x) (.ok (l.all fun b => b)) eB := by
  rintro _ ⟨ds, rfl, r⟩; rw [A2.fn.mp r]; exact ⟨_, by show (match D.bls _ with | some ns => _ | none => _) = _; rw [bls_of]; rfl, rfl⟩
theorem o_any (l : List Bool) : ∀ x, eL eB l x → Rf (dAny x) (.ok (l.any fun b => b)) eB := by
  rintro _ ⟨ds, rfl, r⟩; rw [A2.fn.mp r]; exact ⟨_, by show (match D.bls _ with | some ns => _ | none => _) = _; rw [bls_of]; rfl, rfl⟩
def maxLR : List Int → Res Int
  | [] => .bad
  | x :: l => .ok (maxI (x :: l))
def minLR : List Int → Res Int
  | [] => .bad
  | x :: l => .ok (minI (x :: l))
theorem o_maxL (l : List Int) : ∀ x, eL eI l x → Rf (dMaxL x) (maxLR l) eI := by
  rintro _ ⟨ds, rfl, r⟩
  rw [A2.fn.mp r]
  cases l with
  | nil => trivial
  | cons y l => exact ⟨_, by show (match D.ints (((y :: l).map D.int)) with | some (n :: ns) => Res.ok (D.int (maxI (n :: ns))) | _ => .bad) = _; rw [ints_of], rfl⟩
theorem o_minL (l : List Int) : ∀ x, eL eI l x → Rf (dMinL x) (minLR l) eI := by
  rintro _ ⟨ds, rfl, r⟩
  rw [A2.fn.mp r]
  cases l with
  | nil => trivial
  | cons y l => exact ⟨_, by show (match D.ints (((y :: l).map D.int)) with | some (n :: ns) => Res.ok (D.int (minI (n :: ns))) | _ => .bad) = _; rw [ints_of], rfl⟩
open Classical in
noncomputable def sortIR (l : List Int) : Res (List Int) := if Fits l.length then .ok (l.mergeSort fun a b => decide (a ≤ b)) else .bad
open Classical in
noncomputable def sortKR (l : List (List Int)) : Res (List (List Int)) := if Fits l.length then .ok (sortK l) else .bad
theorem sort_I (l : List Int) {x : D} (h : x.items = some (l.map D.int)) : Rf (dSorted x) (sortIR l) (eL eI) := by
  unfold sortIR
  by_cases k : Fits l.length
  · rw [if_pos k]; exact ⟨_, sorted_ints k h, _, rfl, A2.fn.mpr rfl⟩
  · rw [if_neg k]; trivial
theorem sort_K (l : List (List Int)) {x : D} (h : x.items = some (rowsD l)) : Rf (dSorted x) (sortKR l) (eL eR) := by
  unfold sortKR
  by_cases k : Fits l.length
  · rw [if_pos k]; exact ⟨_, sorted_rows k h, _, rfl, A2.fn.mpr rfl⟩
  · rw [if_neg k]; trivial
theorem o_sortLI (l : List Int) : ∀ x, eL eI l x → Rf (dSorted x) (sortIR l) (eL eI) := by rintro _ ⟨ds, rfl, r⟩; exact sort_I l (by rw [A2.fn.mp r]; rfl)
theorem o_sortRI (l : List Int) : ∀ x, eR l x → Rf (dSorted x) (sortIR l) (eL eI) := by rintro _ rfl; exact sort_I l rfl
theorem o_sortLK (l : List (List Int)) : ∀ x, eL eR l x → Rf (dSorted x) (sortKR l) (eL eR) := by rintro _ ⟨ds, rfl, r⟩; exact sort_K l (by rw [A2.fn.mp r]; rfl)
theorem o_sortTK (l : List (List Int)) : ∀ x, eT eR l x → Rf (dSorted x) (sortKR l) (eL eR) := by rintro _ ⟨ds, rfl, r⟩; exact sort_K l (by rw [A2.fn.mp r]; rfl)
open Classical in
noncomputable def catR {α : Type} (a b : List α) : Res (List α) := if Fits (a.length + b.length) then .ok (a ++ b) else .bad
theorem rf_cat {E : RE α} {a b : List α} {ds es : List D} (h : A2 E a ds) (k : A2 E b es) {x : Res D} {C : List D → D} (hx : ds.length + es.length ≤ sizeLine → x = .ok (C (ds ++ es))) {E' : RE (List α)} (hc : ∀ l ds, A2 E l ds → E' l (C ds)) : Rf x (catR a b) E' := by
  unfold catR
  by_cases q : Fits (a.length + b.length)
  · rw [if_pos q]; exact ⟨_, hx (by rw [h.length, k.length]; exact q), hc _ _ (h.append k)⟩
  · rw [if_neg q]; trivial
theorem o_catL {E : RE α} (a b : List α) : ∀ x y, eL E a x → eL E b y → Rf (dAdd x y) (catR a b) (eL E) := by rintro _ _ ⟨ds, rfl, r⟩ ⟨es, rfl, s⟩; exact rf_cat (C := D.lst) r s (fun h => if_pos h) fun l ds h => ⟨ds, rfl, h⟩
theorem o_catF {E : RE α} (a b : List α) : ∀ x y, eL E a x → eL E b y → Rf (dCat x y) (catR a b) (eL E) := by rintro _ _ ⟨ds, rfl, r⟩ ⟨es, rfl, s⟩; exact rf_cat (C := D.lst) r s (fun h => if_pos h) fun l ds h => ⟨ds, rfl, h⟩
theorem o_catT {E : RE α} (a b : List α) : ∀ x y, eT E a x → eT E b y → Rf (dAdd x y) (catR a b) (eT E) := by rintro _ _ ⟨ds, rfl, r⟩ ⟨es, rfl, s⟩; exact rf_cat (C := D.tup) r s (fun h => if_pos h) fun l ds h => ⟨ds, rfl, h⟩
theorem o_catR (a b : List Int) : ∀ x y, eR a x → eR b y → Rf (dAdd x y) (catR a b) eR := by rintro _ _ rfl rfl; exact rf_cat (E := eI) (C := D.tup) (A2.fn.mpr rfl) (A2.fn.mpr rfl) (fun h => if_pos h) fun l ds h => by rw [A2.fn.mp h]; rfl
theorem catR_ok {a b : List α} (h : a.length + b.length ≤ 10000000) : catR a b = .ok (a ++ b) := if_pos (show _ ≤ sizeLine by rw [PySem.sizeLine_eq]; omega)
section
variable {ρ : KEnv} {f g : DL.Env → Res D}
/-! slices -/
theorem cutL_A2 {E : RE α} {l : List α} {ds : List D} (h : A2 E l ds) (lo hi : Option Int) : A2 E (cutL l lo hi) (cutL ds lo hi) := by
  unfold cutL
  rw [h.length]
  exact (h.drop _).take _
def Eqv {α : Type} : α → α → Prop := fun a b => b = a
theorem vo_n : EvR ρ oNone (.ok none) Eqv := fun e l => ⟨none, rfl, rfl⟩
theorem vo_s {i : Int} (h : EvR ρ f (.ok i) eI) : EvR ρ (oSome f) (.ok (some i)) Eqv := fun e l => by
  obtain ⟨d, h1, h2⟩ := h e l
  exact ⟨some i, by rw [oSome_app, h1, show d = _ from h2]; rfl, rfl⟩
variable {fl fh : DL.Env → Res (Option Int)} {lo hi : Option Int}
theorem v_cutL {E : RE α} {r : Res (List α)} (h : EvR ρ f r (eL E)) (hl : EvR ρ fl (.ok lo) Eqv) (hh : EvR ρ fh (.ok hi) Eqv) : EvR ρ (eCut f fl fh) (r.bind fun l => .ok (cutL l lo hi)) (eL E) := fun e l => by
  rw [eCut_app]
  refine (h e l).bind fun xs d ⟨ds, h1, h2⟩ => ?_
  obtain ⟨_, a1, rfl⟩ := hl e l
  obtain ⟨_, b1, rfl⟩ := hh e l
  rw [a1, b1, h1]
  exact ⟨_, rfl, _, rfl, cutL_A2 h2 _ _⟩
theorem v_cutF {E : RE α} {r : Res (List α)} (h : EvR ρ f r (eL E)) (hl : EvR ρ fl (.ok lo) Eqv) (hh : EvR ρ fh (.ok hi) Eqv) : EvR ρ (eCutL f fl fh) (r.bind fun l => .ok (cutL l lo hi)) (eL E) := fun e l => by
  unfold eCutL
  refine (h e l).bind fun xs d ⟨ds, h1, h2⟩ => ?_
  obtain ⟨_, a1, rfl⟩ := hl e l
  obtain ⟨_, b1, rfl⟩ := hh e l
  rw [a1, b1, h1]
  exact ⟨_, rfl, _, rfl, cutL_A2 h2 _ _⟩
theorem v_cutT {E : RE α} {r : Res (List α)} (h : EvR ρ f r (eT E)) (hl : EvR ρ fl (.ok lo) Eqv) (hh : EvR ρ fh (.ok hi) Eqv) : EvR ρ (eCut f fl fh) (r.bind fun l => .ok (cutL l lo hi)) (eT E) := fun e l => by
  rw [eCut_app]
  refine (h e l).bind fun xs d ⟨ds, h1, h2⟩ => ?_
  obtain ⟨_, a1, rfl⟩ := hl e l
  obtain ⟨_, b1, rfl⟩ := hh e l
  rw [a1, b1, h1]
  exact ⟨_, rfl, _, rfl, cutL_A2 h2 _ _⟩
theorem v_cutR {r : Res (List Int)} (h : EvR ρ f r eR) (hl : EvR ρ fl (.ok lo) Eqv) (hh : EvR ρ fh (.ok hi) Eqv) : EvR ρ (eCut f fl fh) (r.bind fun l => .ok (cutL l lo hi)) eR :=
  v_imp (v_cutT (v_imp h r_t) hl hh) t_r
theorem v_cutD {r : Res D} (h : EvR ρ f r eD) (hl : EvR ρ fl (.ok lo) Eqv) (hh : EvR ρ fh (.ok hi) Eqv) : EvR ρ (eCut f fl fh) (r.bind fun d => dCut lo hi d) eD := fun e l => by
  rw [eCut_app]
  refine (h e l).bind fun x d hd => ?_
  obtain ⟨_, a1, rfl⟩ := hl e l
  obtain ⟨_, b1, rfl⟩ := hh e l
  rw [a1, b1, show d = x from hd]
  exact o_raw1 (dCut _ _) x x rfl
/-! what is walked -/
theorem v_seqL {E : RE α} {r : Res (List α)} (h : EvR ρ f r (eL E)) : EvR ρ (iSeq f) r (A2 E) := fun e l => by
  have := h e l
  rw [iSeq_app]
  cases r with
  | ok a => obtain ⟨d, e1, ds, rfl, h1⟩ := this; rw [e1]; exact ⟨ds, rfl, h1⟩
  | exc c fs => rw [show f e = _ from this]; rfl
  | bad => trivial
theorem v_seqT {E : RE α} {r : Res (List α)} (h : EvR ρ f r (eT E)) : EvR ρ (iSeq f) r (A2 E) := fun e l => by
  have := h e l
  rw [iSeq_app]
  cases r with
  | ok a => obtain ⟨d, e1, ds, rfl, h1⟩ := this; rw [e1]; exact ⟨ds, rfl, h1⟩
  | exc c fs => rw [show f e = _ from this]; rfl
  | bad => trivial
theorem v_seqR {r : Res (List Int)} (h : EvR ρ f r eR) : EvR ρ (iSeq f) r (A2 eI) := v_seqT (v_imp h r_t)
def rangeI (lo hi : Int) : List Int := (List.range (hi - lo).toNat).map fun i => lo + (i : Nat)
open Classical in
noncomputable def rng1 (n : Int) : Res (List Int) := if Rg n then .ok (rangeI 0 n) else .bad
open Classical in
noncomputable def rng2 (m n : Int) : Res (List Int) := if Rg m ∧ Rg n then .ok (rangeI m n) else .bad
theorem rangeI_A2 (m n : Int) : A2 eI (rangeI m n) (rangeD m n) := A2.fn.mpr (by unfold rangeI rangeD; rw [List.map_map]; rfl)
theorem v_rng1 {r : Res Int} (h : EvR ρ f r eI) : EvR ρ (iRange1 f) (r.bind rng1) (A2 eI) := fun e l => by
  rw [iRange1_app]
  refine (h e l).bind fun n d hd => ?_
  rw [show d = _ from hd]
  unfold rng1
  by_cases k : Rg n
  · rw [if_pos k]; exact ⟨_, range1D_int n k, rangeI_A2 0 n⟩
  · rw [if_neg k]; trivial
theorem v_rng1p {n : Int} (h : EvR ρ f (.ok n) eI) : EvR ρ (iRange1 f) (rng1 n) (A2 eI) := v_rng1 h
theorem v_rng2 {r s : Res Int} (h : EvR ρ f r eI) (k : EvR ρ g s eI) : EvR ρ (iRange2 f g) (r.bind fun m => s.bind fun n => rng2 m n) (A2 eI) := fun e l => by
  rw [iRange2_app]
  refine (h e l).bind fun m d hd => ?_
  refine (k e l).bind fun n d' hd' => ?_
  rw [show d = _ from hd, show d' = _ from hd']
  unfold rng2
  by_cases k : Rg m ∧ Rg n
  · rw [if_pos k]; exact ⟨_, range2D_int m n k.1 k.2, rangeI_A2 m n⟩
  · rw [if_neg k]; trivial
theorem v_rng2p {m n : Int} (h : EvR ρ f (.ok m) eI) (k : EvR ρ g (.ok n) eI) : EvR ρ (iRange2 f g) (rng2 m n) (A2 eI) := v_rng2 h k
/-- range(n) whose number is small enough: no questions asked -/
theorem rng1_ok {n : Int} (h : -1000000000 ≤ n) (k : n ≤ 1000000000) : rng1 n = .ok (rangeI 0 n) := if_pos (Rg.of h k)
theorem rng2_ok {m n : Int} (h : -1000000000 ≤ m) (k : m ≤ 1000000000) (h' : -1000000000 ≤ n) (k' : n ≤ 1000000000) : rng2 m n = .ok (rangeI m n) := if_pos ⟨Rg.of h k, Rg.of h' k'⟩
def prog3I (i c : Int) (n : Nat) : List Int := (List.range n).map fun k => i + (k : Nat) * c
open Classical in
noncomputable def rng3 (i j c : Int) : Res (List Int) := if h : ∃ n, RgC i j c n then .ok (prog3I i c (Classical.choose h)) else .bad
theorem v_rng3p {fa fb fc : DL.Env → Res D} {i j c : Int} (ha : EvR ρ fa (.ok i) eI) (hb : EvR ρ fb (.ok j) eI) (hc : EvR ρ fc (.ok c) eI) : EvR ρ (iRange3 fa fb fc) (rng3 i j c) (A2 eI) := fun e l => by
  obtain ⟨x, a1, rfl⟩ := ha e l
  obtain ⟨y, b1, rfl⟩ := hb e l
  obtain ⟨z, c1, rfl⟩ := hc e l
  rw [iRange3_app, a1, b1, c1]
  simp only [Res.bind_ok, r3D_int]
  unfold rng3 rg3
  by_cases h : ∃ n, RgC i j c n
  · rw [dif_pos h, dif_pos h]; exact ⟨_, rfl, A2.fn.mpr (by unfold prog3 prog3I; rw [List.map_map]; rfl)⟩
  · rw [dif_neg h, dif_neg h]; trivial
def enumL {α : Type} : Nat → List α → List (Int × α)
  | _, [] => []
  | n, x :: xs => ((n : Nat), x) :: enumL (n + 1) xs
theorem enum_A2 {E : RE α} : ∀ (n : Nat) {l : List α} {ds : List D}, A2 E l ds → A2 (eQ (qC eI (q1 E))) (enumL n l) (enumT n ds)
  | _, [], _, h => by rw [show _ = [] from h]; rfl
  | n, a :: l, _, ⟨d, r, rfl, x, y⟩ => ⟨_, _, rfl, ⟨_, rfl, _, _, rfl, rfl, _, rfl, x⟩, enum_A2 (n + 1) y⟩
theorem v_enumL {E : RE α} {r : Res (List α)} (h : EvR ρ f r (eL E)) : EvR ρ (iEnum f) (r.bind fun l => .ok (enumL 0 l)) (A2 (eQ (qC eI (q1 E)))) := fun e l => by
  rw [iEnum_app]
  refine (h e l).bind fun xs d ⟨ds, h1, h2⟩ => ?_
  rw [h1]
  exact ⟨_, rfl, enum_A2 0 h2⟩
theorem v_enumT {E : RE α} {r : Res (List α)} (h : EvR ρ f r (eT E)) : EvR ρ (iEnum f) (r.bind fun l => .ok (enumL 0 l)) (A2 (eQ (qC eI (q1 E)))) := fun e l => by
  rw [iEnum_app]
  refine (h e l).bind fun xs d ⟨ds, h1, h2⟩ => ?_
  rw [h1]
  exact ⟨_, rfl, enum_A2 0 h2⟩
theorem v_enumR {r : Res (List Int)} (h : EvR ρ f r eR) : EvR ρ (iEnum f) (r.bind fun l => .ok (enumL 0 l)) (A2 (eQ (qC eI (q1 eI)))) := v_enumT (v_imp h r_t)
theorem v_enumD {r : Res D} (h : EvR ρ f r eD) : EvR ρ (iEnum f) (r.bind fun d => d.asItems.bind fun l => .ok (enumL 0 l)) (A2 (eQ (qC eI (q1 eD)))) := fun e l => by
  rw [iEnum_app]
  refine (h e l).bind fun x d hd => ?_
  rw [show d = x from hd]
  cases x <;> first | trivial | exact ⟨_, rfl, enum_A2 0 (A2.fn.mpr (by simp))⟩
/-- a list or tuple, as a reading of what is walked -/
def Sq {α : Type} (E : RE α) : RE (List α) := fun l d => ∃ ds, seqOf d = some ds ∧ A2 E l ds
theorem sq_L {E : RE α} (a : List α) : ∀ d, eL E a d → Sq E a d := fun d ⟨ds, h, r⟩ => ⟨ds, by rw [h]; rfl, r⟩
theorem sq_T {E : RE α} (a : List α) : ∀ d, eT E a d → Sq E a d := fun d ⟨ds, h, r⟩ => ⟨ds, by rw [h]; rfl, r⟩
theorem sq_R (a : List Int) : ∀ d, eR a d → Sq eI a d := fun d h => ⟨_, by rw [show d = _ from h]; rfl, A2.fn.mpr rfl⟩
theorem zip_A2 {E : RE α} {E' : RE β} : ∀ {l : List α} {l' : List β} {ds es : List D}, A2 E l ds → A2 E' l' es → A2 (eQ (qC E (q1 E'))) (l.zip l') (zipT ds es)
  | [], _, _, _, h, _ => by rw [show _ = [] from h]; rfl
  | _ :: _, [], _, _, ⟨d, r, rfl, _, _⟩, k => by rw [show _ = [] from k]; rfl
  | a :: l, b :: l', _, _, ⟨d, r, rfl, x, y⟩, ⟨d', r', rfl, x', y'⟩ => ⟨_, _, rfl, ⟨_, rfl, _, _, rfl, x, _, rfl, x'⟩, zip_A2 y y'⟩
theorem v_zip {E : RE α} {E' : RE β} {r : Res (List α)} {s : Res (List β)} (h : EvR ρ f r (Sq E)) (k : EvR ρ g s (Sq E')) : EvR ρ (iZip (aCons f (aCons g aNil))) (r.bind fun a => s.bind fun b => .ok (a.zip b)) (A2 (eQ (qC E (q1 E')))) := fun e l => by
  unfold iZip
  rw [aCons_app, aCons_app, aNil_app]
  have ass : ∀ (x : Res D) (y : Res D) (q : List D → Res (List D)), ((x.bind fun d => (y.bind fun d' => (Res.ok ([] : List D)).bind fun ds => .ok (d' :: ds)).bind fun ds => .ok (d :: ds)).bind q) = x.bind fun d => y.bind fun d' => q [d, d'] := fun x y q => by
    cases x <;> cases y <;> rfl
  rw [ass]
  refine (h e l).bind fun a d ⟨ds, h1, h2⟩ => (k e l).bind fun b d' ⟨es, h3, h4⟩ => ?_
  dsimp only
  rw [h1, h3]
  exact ⟨_, rfl, zip_A2 h2 h4⟩
end
/-! ### lists that are changed -/
open Classical in
noncomputable def appR {α : Type} (l : List α) (a : α) : Res (List α) := if l.length < sizeLine then .ok (l ++ [a]) else .bad
theorem appR_ok {l : List α} {a : α} (h : l.length ≤ 10000000) : appR l a = .ok (l ++ [a]) := if_pos (by rw [PySem.sizeLine_eq]; omega)
section
variable {ρ : KEnv}
theorem sMut_J {al : List Nat} {i : Nat} {gm : List D → List D → Option (List D)} {fs : DL.Env → Res (List D)} {E : RE α} {l : List α} {Q : β → List D → Prop} {r : Res β} {t : β → Res (List α)}
    (hf : (fzK al ρ)[i]? = some (some (ow (eL E) l))) (hr : EvR ρ fs r Q) (hg : ∀ ds b es l', A2 E l ds → Q b es → t b = .ok l' → ∃ ds', gm ds es = some ds' ∧ A2 E l' ds') (hn : ∀ b c fs, t b ≠ .exc c fs) : J ρ (sMut al i gm fs) (r.bind t) (PN fun l' => (fzK al ρ).set i (some (ow (eL E) l'))) := fun e le => by
  have lf := le.fz al
  obtain ⟨d, o, h1, ⟨ds, h2, h3⟩, h4⟩ := lf.get hf
  subst h2 h4
  have := hr e le
  have main : sMut al i gm fs e = (match fs e with | .ok es => (match gm ds es with | some ys => .nx ((fz al e).set i (some (.lst ys, true))) | none => .bad) | .exc c fs' => .ex c fs' (fz al e) | .bad => .bad) := by
    rw [sMut_app, ownL_app, h1]
    dsimp only
    rw [sE_app]
    cases fs e <;> rfl
  rw [main]
  cases r with
  | ok b =>
    obtain ⟨es, h5, h6⟩ := this
    rw [h5]
    show JM (t b) _ _
    cases q : t b with
    | ok l' =>
      obtain ⟨ds', h7, h8⟩ := hg ds b es l' h3 h6 q
      dsimp only
      rw [h7]
      exact ⟨_, rfl, lf.set i ⟨⟨ds', rfl, h8⟩, rfl⟩⟩
    | exc c fs' => exact absurd q (hn _ _ _)
    | bad => trivial
  | exc c fs' => rw [show fs e = _ from this]; exact ⟨_, rfl⟩
  | bad => trivial
theorem appR_nx (l : List α) (a : α) (c : String) (fs : List D) : appR l a ≠ .exc c fs := by unfold appR; split <;> simp
theorem d_app {al : List Nat} {i : Nat} {f : DL.Env → Res D} {E : RE α} {l : List α} {r : Res α} (hf : (fzK al ρ)[i]? = some (some (ow (eL E) l))) (h : EvR ρ f r E) : J ρ (sMut al i gAppend (aCons f aNil)) (r.bind fun a => appR l a) (PN fun l' => (fzK al ρ).set i (some (ow (eL E) l'))) :=
  sMut_J hf (vq_1 h) (fun ds b es l' h1 h2 h3 => by
    obtain ⟨d, rfl, h4⟩ := h2
    unfold appR at h3
    split at h3
    · rename_i hl
      cases h3
      exact ⟨ds ++ [d], by unfold gAppend; dsimp only; rw [if_pos (by rw [h1.length]; exact hl)], h1.append ⟨d, [], rfl, h4, rfl⟩⟩
    · cases h3) (fun b => appR_nx l b)
theorem d_appP {al : List Nat} {i : Nat} {f : DL.Env → Res D} {E : RE α} {l : List α} {a : α} (hf : (fzK al ρ)[i]? = some (some (ow (eL E) l))) (h : EvR ρ f (.ok a) E) : J ρ (sMut al i gAppend (aCons f aNil)) (appR l a) (PN fun l' => (fzK al ρ).set i (some (ow (eL E) l'))) := d_app hf h
theorem catR_nx (l a : List α) (c : String) (fs : List D) : catR l a ≠ .exc c fs := by unfold catR; split <;> simp
theorem ext_some {xs ds : List D} {d : D} (h : seqOf d = some ds) (hl : xs.length + ds.length ≤ sizeLine) : gExtend xs [d] = some (xs ++ ds) ∨ ∃ ys, d = .con ys := by
  cases d with
  | lst ys => cases h; exact .inl (if_pos hl)
  | tup ys => cases h; exact .inl (if_pos hl)
  | con ys => exact .inr ⟨ys, rfl⟩
  | _ => cases h
theorem d_extL {al : List Nat} {i : Nat} {f : DL.Env → Res D} {E : RE α} {l : List α} {r : Res (List α)} (hf : (fzK al ρ)[i]? = some (some (ow (eL E) l))) (h : EvR ρ f r (eL E)) : J ρ (sMut al i gExtend (aCons f aNil)) (r.bind fun a => catR l a) (PN fun l' => (fzK al ρ).set i (some (ow (eL E) l'))) :=
  sMut_J hf (vq_1 h) (fun ds b es l' h1 h2 h3 => by
    obtain ⟨_, rfl, ks, rfl, h4⟩ := h2
    unfold catR at h3
    split at h3
    · rename_i hl
      cases h3
      exact ⟨ds ++ ks, if_pos (by rw [h1.length, h4.length]; exact hl), h1.append h4⟩
    · cases h3) (fun b => catR_nx l b)
theorem d_extT {al : List Nat} {i : Nat} {f : DL.Env → Res D} {E : RE α} {l : List α} {r : Res (List α)} (hf : (fzK al ρ)[i]? = some (some (ow (eL E) l))) (h : EvR ρ f r (eT E)) : J ρ (sMut al i gExtend (aCons f aNil)) (r.bind fun a => catR l a) (PN fun l' => (fzK al ρ).set i (some (ow (eL E) l'))) :=
  sMut_J hf (vq_1 h) (fun ds b es l' h1 h2 h3 => by
    obtain ⟨_, rfl, ks, rfl, h4⟩ := h2
    unfold catR at h3
    split at h3
    · rename_i hl
      cases h3
      exact ⟨ds ++ ks, if_pos (by rw [h1.length, h4.length]; exact hl), h1.append h4⟩
    · cases h3) (fun b => catR_nx l b)
/-- l[k] = v -/
def putLR {α : Type} (l : List α) (k : Int) (v : α) : Res (List α) := match ixN l.length k with
  | some j => .ok (l.set j v)
  | none => .bad
theorem d_putLP {al : List Nat} {i : Nat} {fk fv : DL.Env → Res D} {E : RE α} {l : List α} {k : Int} {v : α} (hf : (fzK al ρ)[i]? = some (some (ow (eL E) l))) (hk : EvR ρ fk (.ok k) eI) (hv : EvR ρ fv (.ok v) E) : J ρ (sPutL al i fk fv) (putLR l k v) (PN fun l' => (fzK al ρ).set i (some (ow (eL E) l'))) := fun e le => by
  have lf := le.fz al
  obtain ⟨d, o, h1, ⟨ds, h2, h3⟩, h4⟩ := lf.get hf
  subst h2 h4
  obtain ⟨x, a1, rfl⟩ := hk e le
  obtain ⟨y, b1, b2⟩ := hv e le
  unfold putLR
  cases q : ixN l.length k with
  | none => trivial
  | some j =>
    have q' : ixN ds.length k = some j := by rw [h3.length]; exact q
    refine ⟨(fz al e).set i (some (.lst (ds.set j y), true)), ?_, lf.set i ⟨⟨_, rfl, h3.set b2 j⟩, rfl⟩⟩
    rw [sPutL_app, ownL_app, h1]
    dsimp only
    rw [sE_app, a1, b1]
    simp only [Res.bind_ok]
    rw [q']
theorem putLR_nx (l : List α) (k : Int) (v : α) (c : String) (fs : List D) : putLR l k v ≠ .exc c fs := by unfold putLR; split <;> simp
theorem d_putL {al : List Nat} {i : Nat} {fk fv : DL.Env → Res D} {E : RE α} {l : List α} {rk : Res Int} {rv : Res α} (hf : (fzK al ρ)[i]? = some (some (ow (eL E) l))) (hk : EvR ρ fk rk eI) (hv : EvR ρ fv rv E) : J ρ (sPutL al i fk fv) (rv.bind fun v => rk.bind fun k => putLR l k v) (PN fun l' => (fzK al ρ).set i (some (ow (eL E) l'))) := fun e le => by
  have lf := le.fz al
  obtain ⟨d, o, h1, ⟨ds, h2, h3⟩, h4⟩ := lf.get hf
  subst h2 h4
  have hk' := hk e le
  have hv' := hv e le
  rw [sPutL_app, ownL_app, h1]
  dsimp only
  rw [sE_app]
  cases rv with
  | ok v =>
    obtain ⟨y, b1, b2⟩ := hv'
    rw [b1]
    cases rk with
    | ok k =>
      obtain ⟨x, a1, rfl⟩ := hk'
      rw [a1]
      show JM (putLR l k v) _ _
      unfold putLR
      cases q : ixN l.length k with
      | none => trivial
      | some j =>
        have q' : ixN ds.length k = some j := by rw [h3.length]; exact q
        exact ⟨_, by simp only [Res.bind_ok]; rw [q'], lf.set i ⟨⟨_, rfl, h3.set b2 j⟩, rfl⟩⟩
    | exc c fs => rw [show fk e = _ from hk']; exact ⟨_, rfl⟩
    | bad => trivial
  | exc c fs => rw [show fv e = _ from hv']; exact ⟨_, rfl⟩
  | bad => trivial
end
/-! ### dicts -/
structure KeyF {α : Type} (t : Bool) (f : α → D) : Prop where
  inj : ∀ a b, f a = f b → a = b
  ok : ∀ a, D.keyOk t (f a) = true
theorem KeyF.int : KeyF false D.int := ⟨fun a b h => by injection h, fun a => rfl⟩
theorem KeyF.str : KeyF false D.str := ⟨fun a b h => by injection h, fun a => rfl⟩
theorem KeyF.row : KeyF true ans := ⟨fun a b h => ans_inj h, ans_key⟩
def eK {α : Type} (f : α → D) : RE α := fun a d => d = f a
def eM {α β : Type} (t : Bool) (f : α → D) (E : RE β) : RE (List (α × β)) := fun m d => ∃ kvs, d = .dct t kvs ∧ A2 (fun (p : α × β) (q : D × D) => q.1 = f p.1 ∧ E p.2 q.2) m kvs
section
variable [DecidableEq α] {t : Bool} {f : α → D} {E : RE β}
theorem find_A2 (K : KeyF t f) (k : α) : ∀ {m : List (α × β)} {kvs : List (D × D)}, A2 (fun (p : α × β) (q : D × D) => q.1 = f p.1 ∧ E p.2 q.2) m kvs → match getG m k with
    | some v => ∃ d, dFind kvs (f k) = some d ∧ E v d
    | none => dFind kvs (f k) = none
  | [], _, h => by rw [show _ = [] from h]; rfl
  | p :: m, _, ⟨q, r, rfl, ⟨h1, h2⟩, h3⟩ => by
    have ih := find_A2 K k h3
    unfold getG dFind at *
    rw [List.find?_cons, List.find?_cons]
    by_cases h : p.1 = k
    · have e : q.1 = f k := by rw [h1, h]
      simp only [h, e, decide_true, Option.map_some]
      exact ⟨_, rfl, h2⟩
    · have e : q.1 ≠ f k := fun z => h (K.inj _ _ (h1.symm.trans z))
      simp only [h, e, decide_false]
      exact ih
theorem set_A2 (K : KeyF t f) {m : List (α × β)} {kvs : List (D × D)} (h : A2 (fun (p : α × β) (q : D × D) => q.1 = f p.1 ∧ E p.2 q.2) m kvs) (k : α) {v : β} {d : D} (hv : E v d) :
    A2 (fun (p : α × β) (q : D × D) => q.1 = f p.1 ∧ E p.2 q.2) (putG m k v) (dSet kvs (f k) d) := by
  have any : ∀ {m : List (α × β)} {kvs : List (D × D)}, A2 (fun (p : α × β) (q : D × D) => q.1 = f p.1 ∧ E p.2 q.2) m kvs → (kvs.any fun p => @decide (p.1 = f k) (Classical.propDecidable _)) = m.any fun p => decide (p.1 = k) := by
    intro m
    induction m with
    | nil => intro kvs h; rw [show kvs = [] from h]; rfl
    | cons p m ih =>
      rintro _ ⟨q, r, rfl, ⟨h1, h2⟩, h3⟩
      rw [List.any_cons, List.any_cons, ih h3]
      congr 1
      rw [h1]
      by_cases h : p.1 = k
      · simp [h]
      · have : f p.1 ≠ f k := fun z => h (K.inj _ _ z)
        simp [h, this]
  have mp : ∀ {m : List (α × β)} {kvs : List (D × D)}, A2 (fun (p : α × β) (q : D × D) => q.1 = f p.1 ∧ E p.2 q.2) m kvs → A2 (fun (p : α × β) (q : D × D) => q.1 = f p.1 ∧ E p.2 q.2) (m.map fun p => if p.1 = k then (p.1, v) else p) (kvs.map fun p => @ite _ (p.1 = f k) (Classical.propDecidable _) (p.1, d) p) := by
    intro m
    induction m with
    | nil => intro kvs h; rw [show kvs = [] from h]; rfl
    | cons p m ih =>
      rintro _ ⟨q, r, rfl, ⟨h1, h2⟩, h3⟩
      refine ⟨_, _, rfl, ?_, ih h3⟩
      by_cases h : p.1 = k
      · have e : q.1 = f k := by rw [h1, h]
        dsimp only; rw [if_pos h, if_pos e]; exact ⟨h1, hv⟩
      · have e : q.1 ≠ f k := fun z => h (K.inj _ _ (h1.symm.trans z))
        dsimp only; rw [if_neg h, if_neg e]; exact ⟨h1, h2⟩
  unfold putG dSet
  rw [any h]
  split
  · exact mp h
  · exact h.append ⟨_, [], rfl, ⟨rfl, hv⟩, rfl⟩
variable {ρ : KEnv}
theorem o_at (K : KeyF t f) (m : List (α × β)) (k : α) : ∀ x y, eM t f E m x → eK f k y → Rf (dAt x y) (match getG m k with | some v => .ok v | none => .bad) E := by
  rintro _ _ ⟨kvs, rfl, h⟩ rfl
  have := find_A2 K k h
  cases q : getG m k with
  | none => trivial
  | some v =>
    rw [q] at this
    obtain ⟨d, h1, h2⟩ := this
    exact ⟨d, by simp [dAt, K.ok k, h1], h2⟩
theorem o_in (K : KeyF t f) (no : Bool) (m : List (α × β)) (k : α) : ∀ x y, eK f k x → eM t f E m y → Rf (dIn no x y) (.ok ((getG m k).isSome != no)) eB := by
  rintro _ _ rfl ⟨kvs, rfl, h⟩
  have := find_A2 K k h
  refine ⟨_, if_pos (K.ok k), ?_⟩
  show D.bl _ = D.bl _
  congr 1
  cases q : getG m k with
  | none => rw [q] at this; rw [this]; rfl
  | some v => rw [q] at this; obtain ⟨d, h1, h2⟩ := this; rw [h1]; rfl
theorem v_get2 (K : KeyF t f) {fa fb fc : DL.Env → Res D} {m : List (α × β)} {rk : Res α} {rd : Res β} (ha : EvR ρ fa (.ok m) (eM t f E)) (hb : EvR ρ fb rk (eK f)) (hc : EvR ρ fc rd E) : EvR ρ (eGet2 fa fb fc) (rk.bind fun k => rd.bind fun v => .ok ((getG m k).getD v)) E := fun e l => by
  obtain ⟨_, a1, kvs, rfl, h⟩ := ha e l
  rw [eGet2_app, a1]
  refine (hb e l).bind fun k d hk => (hc e l).bind fun v d' hv => ?_
  rw [show d = _ from hk]
  have := find_A2 K k h
  refine ⟨(dFind kvs (f k)).getD d', if_pos (K.ok k), ?_⟩
  cases q : getG m k with
  | none => rw [q] at this; rw [this]; exact hv
  | some w => rw [q] at this; obtain ⟨z, h1, h2⟩ := this; rw [h1]; exact h2
theorem v_get2p (K : KeyF t f) {fa fb fc : DL.Env → Res D} {m : List (α × β)} {k : α} {v : β} (ha : EvR ρ fa (.ok m) (eM t f E)) (hb : EvR ρ fb (.ok k) (eK f)) (hc : EvR ρ fc (.ok v) E) : EvR ρ (eGet2 fa fb fc) (.ok ((getG m k).getD v)) E := v_get2 K ha hb hc
open Classical in
noncomputable def putDR (m : List (α × β)) (k : α) (v : β) : Res (List (α × β)) := if m.length < sizeLine then .ok (putG m k v) else .bad
omit [DecidableEq α] in
theorem v_dnew : EvR ρ (eDNew t) (.ok []) (eM t f E) := fun e l => ⟨_, rfl, [], rfl, rfl⟩
theorem d_putD (K : KeyF t f) {al : List Nat} {i : Nat} {fk fv : DL.Env → Res D} {m : List (α × β)} {rk : Res α} {rv : Res β} (hf : (fzK al ρ)[i]? = some (some (ow (eM t f E) m))) (hk : EvR ρ fk rk (eK f)) (hv : EvR ρ fv rv E) :
    J ρ (sPutD al i fk fv) (rv.bind fun v => rk.bind fun k => putDR m k v) (PN fun m' => (fzK al ρ).set i (some (ow (eM t f E) m'))) := fun e le => by
  have lf := le.fz al
  obtain ⟨d, o, h1, ⟨kvs, h2, h3⟩, h4⟩ := lf.get hf
  subst h2 h4
  have hk' := hk e le
  have hv' := hv e le
  rw [sPutD_app, ownD_app, h1]
  dsimp only
  rw [sE_app]
  cases rv with
  | ok v =>
    obtain ⟨y, b1, b2⟩ := hv'
    rw [b1]
    cases rk with
    | ok k =>
      obtain ⟨x, a1, rfl⟩ := hk'
      rw [a1]
      show JM (putDR m k v) _ _
      unfold putDR
      by_cases q : m.length < sizeLine
      · rw [if_pos q]
        exact ⟨_, by simp only [Res.bind_ok]; rw [if_pos ⟨K.ok k, by rw [h3.length]; exact q⟩], lf.set i ⟨⟨_, rfl, set_A2 K h3 k b2⟩, rfl⟩⟩
      · rw [if_neg q]; trivial
    | exc c fs => rw [show fk e = _ from hk']; exact ⟨_, rfl⟩
    | bad => trivial
  | exc c fs => rw [show fv e = _ from hv']; exact ⟨_, rfl⟩
  | bad => trivial
theorem d_putDP (K : KeyF t f) {al : List Nat} {i : Nat} {fk fv : DL.Env → Res D} {m : List (α × β)} {k : α} {v : β} (hf : (fzK al ρ)[i]? = some (some (ow (eM t f E) m))) (hk : EvR ρ fk (.ok k) (eK f)) (hv : EvR ρ fv (.ok v) E) :
    J ρ (sPutD al i fk fv) (putDR m k v) (PN fun m' => (fzK al ρ).set i (some (ow (eM t f E) m'))) := d_putD K hf hk hv
omit [DecidableEq α] in
theorem o_lenM (m : List (α × β)) : ∀ x, eM t f E m x → Rf (dLen x) (.ok (m.length : Int)) eI := by rintro _ ⟨kvs, rfl, h⟩; exact ⟨_, rfl, by rw [← h.length]; rfl⟩
omit [DecidableEq α] in
theorem keys_A2 : ∀ {m : List (α × β)} {kvs : List (D × D)}, A2 (fun (p : α × β) (q : D × D) => q.1 = f p.1 ∧ E p.2 q.2) m kvs → kvs.map (·.1) = (m.map (·.1)).map f
  | [], _, h => by rw [show _ = [] from h]; rfl
  | p :: m, _, ⟨q, r, rfl, ⟨h1, _⟩, h3⟩ => by rw [List.map_cons, List.map_cons, List.map_cons, keys_A2 h3, h1]
end
theorem o_sortMI {t : Bool} {E : RE β} (m : List (Int × β)) : ∀ x, eM t D.int E m x → Rf (dSorted x) (sortIR (m.map (·.1))) (eL eI) := by rintro _ ⟨kvs, rfl, h⟩; exact sort_I _ (by show some (kvs.map (·.1)) = _; rw [keys_A2 h])
theorem o_sortMK {t : Bool} {E : RE β} (m : List (List Int × β)) : ∀ x, eM t ans E m x → Rf (dSorted x) (sortKR (m.map (·.1))) (eL eR) := by rintro _ ⟨kvs, rfl, h⟩; exact sort_K _ (by show some (kvs.map (·.1)) = _; rw [keys_A2 h]; rfl)
end
end DL

/-! Typed readings: more operations, casts. -/
namespace DL
open PySem PySem.Spec PyProof.Rows L2
open PySem.Builtin.Int (intBits)

theorem Res.assoc {α β γ : Type} (r : Res α) (f : α → Res β) (g : β → Res γ) : (r.bind f).bind g = r.bind fun a => (f a).bind g := by cases r <;> rfl
@[simp] theorem pow_10_30 : dPow (.int 10) (.int 30) = .ok (.int (10 ^ 30)) := dPow_of (by decide +kernel)
@[simp] theorem pow_10_12 : dPow (.int 10) (.int 12) = .ok (.int (10 ^ 12)) := dPow_of (by decide +kernel)
@[simp] theorem pow_10_6 : dPow (.int 10) (.int 6) = .ok (.int (10 ^ 6)) := dPow_of (by decide +kernel)
section
variable {α β γ : Type} {ρ : KEnv}
theorem v_eqr {f : DL.Env → Res β} {r r' : Res α} {E : α → β → Prop} (h : EvR ρ f r E) (e : r = r') : EvR ρ f r' E := e ▸ h
theorem v_opl {fa fb : DL.Env → Res D} {g : D → D → Res D} {Ea : RE α} {Eb : RE β} {Ec : RE γ} {ra : Res α} {b : β} {gt : α → Res γ} (hg : ∀ a x y, Ea a x → Eb b y → Rf (g x y) (gt a) Ec) (ha : EvR ρ fa ra Ea) (hb : EvR ρ fb (.ok b) Eb) :
    EvR ρ (eOp g fa fb) (ra.bind gt) Ec := fun e l => (ha e l).bind fun a x h1 => by
  obtain ⟨y, h2, h3⟩ := hb e l
  rw [h2]
  exact hg a x y h1 h3
theorem v_1i {fa : DL.Env → Res D} {g : D → Res D} {Ea Ec : RE α} {ra : Res α} (hg : ∀ a x, Ea a x → Rf (g x) (.ok a) Ec) (ha : EvR ρ fa ra Ea) : EvR ρ (e1 g fa) ra Ec := fun e l => by
  have := (ha e l).bind hg
  cases ra <;> exact this
/-- a < b < c -/
theorem v_chain {g g' : D → D → Res D} {fa fb fc : DL.Env → Res D} {r r' : Res Bool} (h : EvR ρ (eOp g fa fb) r eB) (k : EvR ρ (eOp g' fb fc) r' eB) : EvR ρ (eChain g g' fa fb fc) (r.bind fun z => if z = true then r' else .ok false) eB := fun e l => by
  have h1 := h e l
  have h2 := k e l
  unfold eChain
  unfold eOp at h1 h2
  cases qa : fa e with
  | ok x =>
    rw [qa] at h1
    cases qb : fb e with
    | ok y =>
      rw [qb] at h1 h2
      simp only [Res.bind_ok] at h1 h2 ⊢
      refine h1.bind fun a d hd => ?_
      rw [show d = _ from hd]
      show Rf ((if a = true then _ else _ : Res D)) _ eB
      cases a with
      | true =>
        rw [if_pos rfl, if_pos rfl]
        exact h2
      | false => exact ⟨_, rfl, rfl⟩
    | exc c fs => rw [qb] at h1; cases r with
      | ok b => obtain ⟨_, z, _⟩ := h1; cases z
      | exc c' fs' => simp only [Res.bind_ok, Res.bind_exc] at h1 ⊢; rw [show Res.exc c fs = _ from h1]; rfl
      | bad => trivial
    | bad => rw [qb] at h1; cases r with
      | ok b => obtain ⟨_, z, _⟩ := h1; cases z
      | exc c' fs' => cases h1
      | bad => trivial
  | exc c fs => rw [qa] at h1; cases r with
    | ok b => obtain ⟨_, z, _⟩ := h1; cases z
    | exc c' fs' => simp only [Res.bind_exc] at h1 ⊢; rw [show Res.exc c fs = _ from h1]; rfl
    | bad => trivial
  | bad => rw [qa] at h1; cases r with
    | ok b => obtain ⟨_, z, _⟩ := h1; cases z
    | exc c' fs' => cases h1
    | bad => trivial
theorem v_chainP {g g' : D → D → Res D} {fa fb fc : DL.Env → Res D} {P Q : Prop} [Decidable P] [Decidable Q] (h : EvR ρ (eOp g fa fb) (.ok (decide P)) eB) (k : EvR ρ (eOp g' fb fc) (.ok (decide Q)) eB) : EvR ρ (eChain g g' fa fb fc) (.ok (decide (P ∧ Q))) eB := fun e l => by
  have := v_chain h k e l
  rw [show (Res.ok (decide P)).bind (fun b => if b = true then Res.ok (decide Q) else .ok false) = .ok (decide (P ∧ Q)) by by_cases h : P <;> simp [h]] at this
  exact this
theorem v_chainM {g g' : D → D → Res D} {fa fb fc : DL.Env → Res D} {P : Prop} [Decidable P] {r' : Res Bool} (h : EvR ρ (eOp g fa fb) (.ok (decide P)) eB) (k : EvR ρ (eOp g' fb fc) r' eB) : EvR ρ (eChain g g' fa fb fc) (if P then r' else .ok false) eB := fun e l => by
  have := v_chain h k e l
  rw [show (Res.ok (decide P)).bind (fun b => if b = true then r' else .ok false) = (if P then r' else .ok false) by by_cases h : P <;> simp [h]] at this
  exact this
theorem b_andM {fa fb : DL.Env → Res Bool} {P : Prop} [Decidable P] {rb : Res Bool} (ha : EvR ρ fa (.ok (decide P)) Tr) (hb : EvR ρ fb rb Tr) : EvR ρ (bAnd fa fb) (if P then rb else .ok false) Tr := fun e l => by
  have := b_and ha hb e l
  rw [show (Res.ok (decide P)).bind (fun b => if b = true then rb else .ok false) = (if P then rb else .ok false) by by_cases h : P <;> simp [h]] at this
  exact this
theorem b_orM {fa fb : DL.Env → Res Bool} {P : Prop} [Decidable P] {rb : Res Bool} (ha : EvR ρ fa (.ok (decide P)) Tr) (hb : EvR ρ fb rb Tr) : EvR ρ (bOr fa fb) (if P then .ok true else rb) Tr := fun e l => by
  have := b_or ha hb e l
  rw [show (Res.ok (decide P)).bind (fun b => if b = true then .ok true else rb) = (if P then .ok true else rb) by by_cases h : P <;> simp [h]] at this
  exact this
theorem v_andM {fa fb : DL.Env → Res D} {P : Prop} [Decidable P] {rb : Res Bool} (ha : EvR ρ fa (.ok (decide P)) eB) (hb : EvR ρ fb rb eB) : EvR ρ (eAnd fa fb) (if P then rb else .ok false) eB := fun e l => by
  have := v_and ha hb e l
  rw [show (Res.ok (decide P)).bind (fun b => if b = true then rb else .ok false) = (if P then rb else .ok false) by by_cases h : P <;> simp [h]] at this
  exact this
theorem v_orM {fa fb : DL.Env → Res D} {P : Prop} [Decidable P] {rb : Res Bool} (ha : EvR ρ fa (.ok (decide P)) eB) (hb : EvR ρ fb rb eB) : EvR ρ (eOr fa fb) (if P then .ok true else rb) eB := fun e l => by
  have := v_or ha hb e l
  rw [show (Res.ok (decide P)).bind (fun b => if b = true then .ok true else rb) = (if P then .ok true else rb) by by_cases h : P <;> simp [h]] at this
  exact this
theorem g_pass {ρ : KEnv} : Go ρ sSkip ρ := fun e l => ⟨e, rfl, l⟩
theorem j_fallO {R : Type} {E : RE R} : J ρ sSkip (.ok none) (PT (eO E)) := fun e l => ⟨.non, rfl, .inr (.inr ⟨⟨e, rfl⟩, rfl⟩)⟩
/-! shares written down -/
theorem h_con1 : eH (1 : Rat) (.con [.int 1, .int 1]) := .inr rfl
theorem h_con0 : eH (0 : Rat) (.con [.int 0, .int 1]) := .inr rfl
theorem h_conF : eP (qC eH (q1 eH)) ((1 : Rat), (0 : Rat)) (.con [.con [.int 1, .int 1], .con [.int 0, .int 1]]) := ⟨_, .inr rfl, _, _, rfl, h_con1, _, rfl, h_con0⟩
theorem v_sh1 : EvR ρ (eTup (aCons (eC (.int 1)) (aCons (eC (.int 1)) aNil))) (.ok (1 : Rat)) eH := fun e l => ⟨_, rfl, .inl rfl⟩
theorem v_sh0 : EvR ρ (eTup (aCons (eC (.int 0)) (aCons (eC (.int 1)) aNil))) (.ok (0 : Rat)) eH := fun e l => ⟨_, rfl, .inl rfl⟩
/-! readings by a function -/
def Fun {α : Type} (E : RE α) (f : α → D) : Prop := ∀ a d, E a d ↔ eD (f a) d
def FunQ {α : Type} (Q : α → List D → Prop) (f : α → List D) : Prop := ∀ a d, Q a d ↔ d = f a
def fLst {α : Type} (f : α → D) : List α → D := fun l => .lst (l.map f)
def fTup {α : Type} (f : α → D) : List α → D := fun l => .tup (l.map f)
def fOpt {α : Type} (f : α → D) : Option α → D := fun o => match o with | none => .non | some a => f a
def fPr {α : Type} (f : α → List D) : α → D := fun a => .tup (f a)
def fOne {α : Type} (f : α → D) : α → List D := fun a => [f a]
def fCons {α β : Type} (f : α → D) (g : β → List D) : α × β → List D := fun p => f p.1 :: g p.2
theorem Fun.int : Fun eI D.int := fun a d => Iff.rfl
theorem Fun.bl : Fun eB D.bl := fun a d => Iff.rfl
theorem Fun.str : Fun eS D.str := fun a d => Iff.rfl
theorem Fun.row : Fun eR ans := fun a d => Iff.rfl
theorem Fun.raw : Fun eD (fun d => d) := fun a d => Iff.rfl
theorem Fun.non : Fun eN (fun _ => D.non) := fun a d => Iff.rfl
theorem a2_fun {E : RE α} {f : α → D} (h : Fun E f) (l : List α) (ds : List D) : A2 E l ds ↔ ds = l.map f := by
  rw [← A2.fn]
  exact ⟨A2.imp fun a d => (h a d).mp, A2.imp fun a d => (h a d).mpr⟩
theorem Fun.lst {E : RE α} {f : α → D} (h : Fun E f) : Fun (eL E) (fLst f) := fun a d =>
  ⟨fun ⟨ds, e, r⟩ => by rw [e, (a2_fun h a ds).mp r]; rfl, fun e => ⟨_, e, (a2_fun h a _).mpr rfl⟩⟩
theorem Fun.tup {E : RE α} {f : α → D} (h : Fun E f) : Fun (eT E) (fTup f) := fun a d =>
  ⟨fun ⟨ds, e, r⟩ => by rw [e, (a2_fun h a ds).mp r]; rfl, fun e => ⟨_, e, (a2_fun h a _).mpr rfl⟩⟩
theorem Fun.opt {E : RE α} {f : α → D} (h : Fun E f) : Fun (eO E) (fOpt f) := fun a d => by
  cases a with
  | none => exact Iff.rfl
  | some a => exact h a d
theorem FunQ.one {E : RE α} {f : α → D} (h : Fun E f) : FunQ (q1 E) (fOne f) := fun a d =>
  ⟨fun ⟨x, e, r⟩ => by rw [e, show x = _ from (h a x).mp r]; rfl, fun e => ⟨_, e, (h a _).mpr rfl⟩⟩
theorem FunQ.c {E : RE α} {f : α → D} {Q : β → List D → Prop} {g : β → List D} (h : Fun E f) (k : FunQ Q g) : FunQ (qC E Q) (fCons f g) := fun a d =>
  ⟨fun ⟨x, y, e, r, s⟩ => by rw [e, show x = _ from (h _ x).mp r, (k _ y).mp s]; rfl, fun e => ⟨_, _, e, (h _ _).mpr rfl, (k _ _).mpr rfl⟩⟩
theorem Fun.pr {Q : α → List D → Prop} {f : α → List D} (h : FunQ Q f) : Fun (eQ Q) (fPr f) := fun a d =>
  ⟨fun ⟨ds, e, r⟩ => by rw [e, (h a ds).mp r]; rfl, fun e => ⟨_, e, (h a _).mpr rfl⟩⟩
/-! something or nothing -/
def optR {α : Type} : Option α → Res α
  | some a => .ok a
  | none => .bad
@[simp] theorem optR_some (a : α) : optR (some a) = .ok a := rfl
theorem v_asO {f : DL.Env → Res D} {E : RE α} {r : Res (Option α)} (h : EvR ρ f r (eO E)) : EvR ρ f (r.bind optR) E := v_as h (fun a d c h1 h2 => by
  cases a with
  | none => cases h2
  | some a => cases h2; exact h1) fun a c fs h => by cases a <;> cases h
/-- never None -/
def NonN {α : Type} (E : RE α) : Prop := ∀ a d, E a d → dIs d .non = .ok (.bl false)
theorem nn_I : NonN eI := by rintro a _ rfl; rfl
theorem nn_B : NonN eB := by rintro a _ rfl; rfl
theorem nn_S : NonN eS := by rintro a _ rfl; rfl
theorem nn_R : NonN eR := by rintro a _ rfl; rfl
theorem nn_H : NonN eH := by rintro a _ (rfl | rfl) <;> rfl
theorem nn_List {E : RE α} : NonN (eL E) := by rintro a _ ⟨ds, rfl, r⟩; rfl
theorem nn_Tup {E : RE α} : NonN (eT E) := by rintro a _ ⟨ds, rfl, r⟩; rfl
theorem nn_Prod {Q : α → List D → Prop} : NonN (eQ Q) := by rintro a _ ⟨ds, rfl, r⟩; rfl
theorem nn_Dict {t : Bool} {f : α → D} {E : RE β} : NonN (eM t f E) := by rintro a _ ⟨ds, rfl, r⟩; rfl
theorem o_isN {E : RE α} (h : NonN E) (a : Option α) (u : Unit) : ∀ x y, eO E a x → eN u y → Rf (dIs x y) (.ok (decide (a = none))) eB := by
  rintro x _ hx rfl
  cases a with
  | none => rw [show x = _ from hx]; exact ⟨_, rfl, rfl⟩
  | some a => exact ⟨_, h a x hx, rfl⟩
theorem o_isnt {E : RE α} (h : NonN E) (a : Option α) (u : Unit) : ∀ x y, eO E a x → eN u y → Rf (dIsNot x y) (.ok (decide (a ≠ none))) eB := by
  rintro x _ hx rfl
  cases a with
  | none => rw [show x = _ from hx]; exact ⟨_, rfl, rfl⟩
  | some a => exact ⟨_, by unfold dIsNot; rw [h a x hx]; rfl, rfl⟩
/-! texts -/
open Classical in
noncomputable def catS (a b : Str) : Res Str := if a.length + b.length ≤ sizeLine then .ok (a ++ b) else .bad
theorem o_catS (a b : Str) : ∀ x y, eS a x → eS b y → Rf (dAdd x y) (catS a b) eS := by
  rintro _ _ rfl rfl
  unfold catS
  by_cases h : a.length + b.length ≤ sizeLine
  · rw [if_pos h]; exact ⟨_, if_pos h, rfl⟩
  · rw [if_neg h]; trivial
open Classical in
noncomputable def lenS (a : Str) : Res Int := if a.length ≤ sizeLine then .ok (a.length : Int) else .bad
theorem o_lenS (a : Str) : ∀ x, eS a x → Rf (dLen x) (lenS a) eI := by
  rintro _ rfl
  unfold lenS
  by_cases h : a.length ≤ sizeLine
  · rw [if_pos h]; exact ⟨_, if_pos h, rfl⟩
  · rw [if_neg h]; trivial
/-! keys -/
theorem v_keyI {f : DL.Env → Res D} {r : Res Int} (h : EvR ρ f r eI) : EvR ρ f r (eK D.int) := v_imp h fun _ _ h => h
theorem v_keyS {f : DL.Env → Res D} {r : Res Str} (h : EvR ρ f r eS) : EvR ρ f r (eK D.str) := v_imp h fun _ _ h => h
theorem v_keyR {f : DL.Env → Res D} {r : Res (List Int)} (h : EvR ρ f r eR) : EvR ρ f r (eK ans) := v_imp h fun _ _ h => h
def atG [DecidableEq α] (m : List (α × β)) (k : α) : Res β := match getG m k with
  | some v => .ok v
  | none => .bad
theorem atG_of [DecidableEq α] {m : List (α × β)} {k : α} {v : β} (h : getG m k = some v) : atG m k = .ok v := by unfold atG; rw [h]
theorem o_at' [DecidableEq α] {t : Bool} {f : α → D} {E : RE β} (K : KeyF t f) (m : List (α × β)) (k : α) : ∀ x y, eM t f E m x → eK f k y → Rf (dAt x y) (atG m k) E := o_at K m k
theorem o_atA [DecidableEq α] {t : Bool} {f : α → D} {E : RE β} (K : KeyF t f) (m : List (α × β)) (k : α) : ∀ x y, eM t f E m x → eK f k y → Rf (dIxA x y) (atG m k) E := by
  rintro _ y ⟨kvs, rfl, h⟩ hk
  exact o_at K m k _ y ⟨kvs, rfl, h⟩ hk
theorem o_inA [DecidableEq α] {t : Bool} {f : α → D} {E : RE β} (K : KeyF t f) (no : Bool) (m : List (α × β)) (k : α) : ∀ x y, eK f k x → eM t f E m y → Rf (dInA no x y) (.ok ((getG m k).isSome != no)) eB := by
  rintro x _ hk ⟨kvs, rfl, h⟩
  exact o_in K no m k x _ hk ⟨kvs, rfl, h⟩
theorem o_inL (k : List Int) (l : List (List Int)) : ∀ x y, eR k x → eL eR l y → Rf (dInA false x y) (.ok (decide (k ∈ l))) eB := by
  rintro _ _ rfl ⟨ds, rfl, r⟩
  rw [A2.fn.mp r]
  exact ⟨_, dInA_rows false l k, by simp [eB]⟩
theorem o_inLn (k : List Int) (l : List (List Int)) : ∀ x y, eR k x → eL eR l y → Rf (dInA true x y) (.ok (decide (¬ k ∈ l))) eB := by
  rintro _ _ rfl ⟨ds, rfl, r⟩
  rw [A2.fn.mp r]
  exact ⟨_, dInA_rows true l k, by simp [eB]⟩
theorem dInA_rowsT (no : Bool) (L : List (List Int)) (k : List Int) : dInA no (ans k) (.tup (rowsD L)) = .ok (.bl (decide (k ∈ L) != no)) := by
  have := dInA_rows no L k
  exact this
theorem o_inT (k : List Int) (l : List (List Int)) : ∀ x y, eR k x → eT eR l y → Rf (dInA false x y) (.ok (decide (k ∈ l))) eB := by
  rintro _ _ rfl ⟨ds, rfl, r⟩
  rw [A2.fn.mp r]
  exact ⟨_, dInA_rowsT false l k, by simp [eB]⟩
theorem o_inTn (k : List Int) (l : List (List Int)) : ∀ x y, eR k x → eT eR l y → Rf (dInA true x y) (.ok (decide (¬ k ∈ l))) eB := by
  rintro _ _ rfl ⟨ds, rfl, r⟩
  rw [A2.fn.mp r]
  exact ⟨_, dInA_rowsT true l k, by simp [eB]⟩
/-! tuples of raw data taken apart -/
def asTup2 : D → Res (D × D)
  | .tup [a, b] => .ok (a, b)
  | _ => .bad
def asTup3 : D → Res (D × D × D)
  | .tup [a, b, c] => .ok (a, b, c)
  | _ => .bad
def asTup4 : D → Res (D × D × D × D)
  | .tup [a, b, c, d] => .ok (a, b, c, d)
  | _ => .bad
def asTup5 : D → Res (D × D × D × D × D)
  | .tup [a, b, c, d, e] => .ok (a, b, c, d, e)
  | _ => .bad
theorem asTup2_ok {d : D} {p : D × D} (h : asTup2 d = .ok p) : d = .tup [p.1, p.2] := by
  unfold asTup2 at h; split at h <;> cases h; rfl
theorem asTup3_ok {d : D} {p : D × D × D} (h : asTup3 d = .ok p) : d = .tup [p.1, p.2.1, p.2.2] := by
  unfold asTup3 at h; split at h <;> cases h; rfl
theorem asTup4_ok {d : D} {p : D × D × D × D} (h : asTup4 d = .ok p) : d = .tup [p.1, p.2.1, p.2.2.1, p.2.2.2] := by
  unfold asTup4 at h; split at h <;> cases h; rfl
theorem asTup5_ok {d : D} {p : D × D × D × D × D} (h : asTup5 d = .ok p) : d = .tup [p.1, p.2.1, p.2.2.1, p.2.2.2.1, p.2.2.2.2] := by
  unfold asTup5 at h; split at h <;> cases h; rfl
theorem eq_2 {d : D} {p : D × D} (h : asTup2 d = .ok p) : eQ (qC eD (q1 eD)) p d := ⟨_, asTup2_ok h, _, _, rfl, rfl, _, rfl, rfl⟩
theorem eq_3 {d : D} {p : D × D × D} (h : asTup3 d = .ok p) : eQ (qC eD (qC eD (q1 eD))) p d := ⟨_, asTup3_ok h, _, _, rfl, rfl, _, _, rfl, rfl, _, rfl, rfl⟩
theorem eq_4 {d : D} {p : D × D × D × D} (h : asTup4 d = .ok p) : eQ (qC eD (qC eD (qC eD (q1 eD)))) p d := ⟨_, asTup4_ok h, _, _, rfl, rfl, _, _, rfl, rfl, _, _, rfl, rfl, _, rfl, rfl⟩
theorem eq_5 {d : D} {p : D × D × D × D × D} (h : asTup5 d = .ok p) : eQ (qC eD (qC eD (qC eD (qC eD (q1 eD))))) p d := ⟨_, asTup5_ok h, _, _, rfl, rfl, _, _, rfl, rfl, _, _, rfl, rfl, _, _, rfl, rfl, _, rfl, rfl⟩
theorem v_tup2 {f : DL.Env → Res D} {r : Res D} (h : EvR ρ f r eD) : EvR ρ f (r.bind asTup2) (eQ (qC eD (q1 eD))) := v_as h (fun a d c h1 h2 => by rw [show d = a from h1]; exact eq_2 h2) fun a c fs h => by unfold asTup2 at h; split at h <;> cases h
theorem v_tup3 {f : DL.Env → Res D} {r : Res D} (h : EvR ρ f r eD) : EvR ρ f (r.bind asTup3) (eQ (qC eD (qC eD (q1 eD)))) := v_as h (fun a d c h1 h2 => by rw [show d = a from h1]; exact eq_3 h2) fun a c fs h => by unfold asTup3 at h; split at h <;> cases h
theorem v_tup4 {f : DL.Env → Res D} {r : Res D} (h : EvR ρ f r eD) : EvR ρ f (r.bind asTup4) (eQ (qC eD (qC eD (qC eD (q1 eD))))) := v_as h (fun a d c h1 h2 => by rw [show d = a from h1]; exact eq_4 h2) fun a c fs h => by unfold asTup4 at h; split at h <;> cases h
theorem v_tup5 {f : DL.Env → Res D} {r : Res D} (h : EvR ρ f r eD) : EvR ρ f (r.bind asTup5) (eQ (qC eD (qC eD (qC eD (qC eD (q1 eD)))))) := v_as h (fun a d c h1 h2 => by rw [show d = a from h1]; exact eq_5 h2) fun a c fs h => by unfold asTup5 at h; split at h <;> cases h
theorem mapR_nx {f : α → Res β} (hf : ∀ a c fs, f a ≠ .exc c fs) : ∀ (l : List α) (c : String) (fs : List D), mapR l f ≠ .exc c fs
  | [], c, fs, h => by cases h
  | a :: l, c, fs, h => by
    unfold mapR at h
    cases q : f a with
    | ok b =>
      rw [q] at h
      cases q2 : mapR l f with
      | ok bs => rw [q2] at h; cases h
      | exc c' fs' => exact mapR_nx hf l _ _ q2
      | bad => rw [q2] at h; cases h
    | exc c' fs' => exact hf _ _ _ q
    | bad => rw [q] at h; cases h
theorem mapR_A2 {f : D → Res β} {E : RE β} (hf : ∀ d b, f d = .ok b → E b d) : ∀ {l ds : List D} {bs : List β}, A2 eD l ds → mapR l f = .ok bs → A2 E bs ds
  | [], ds, bs, h, q => by rw [show ds = [] from h]; cases q; rfl
  | a :: l, _, bs, ⟨d, r, rfl, h1, h2⟩, q => by
    unfold mapR at q
    cases q1 : f a with
    | ok b =>
      rw [q1] at q
      cases q2 : mapR l f with
      | ok bs' => rw [q2] at q; cases q; exact ⟨d, r, rfl, by rw [show d = a from h1]; exact hf _ _ q1, mapR_A2 hf h2 q2⟩
      | exc c' fs' => rw [q2] at q; cases q
      | bad => rw [q2] at q; cases q
    | exc c' fs' => rw [q1] at q; cases q
    | bad => rw [q1] at q; cases q
def asTups2 (l : List D) : Res (List (D × D)) := mapR l asTup2
def asTups3 (l : List D) : Res (List (D × D × D)) := mapR l asTup3
def asTups4 (l : List D) : Res (List (D × D × D × D)) := mapR l asTup4
def asTups5 (l : List D) : Res (List (D × D × D × D × D)) := mapR l asTup5
theorem v_tups2 {f : DL.Env → Res (List D)} {r : Res (List D)} (h : EvR ρ f r (A2 eD)) : EvR ρ f (r.bind asTups2) (A2 (eQ (qC eD (q1 eD)))) := v_as h (fun a d c h1 h2 => mapR_A2 (fun _ _ => eq_2) h1 h2) fun a => mapR_nx (fun a c fs h => by unfold asTup2 at h; split at h <;> cases h) a
theorem v_tups3 {f : DL.Env → Res (List D)} {r : Res (List D)} (h : EvR ρ f r (A2 eD)) : EvR ρ f (r.bind asTups3) (A2 (eQ (qC eD (qC eD (q1 eD))))) := v_as h (fun a d c h1 h2 => mapR_A2 (fun _ _ => eq_3) h1 h2) fun a => mapR_nx (fun a c fs h => by unfold asTup3 at h; split at h <;> cases h) a
theorem v_tups4 {f : DL.Env → Res (List D)} {r : Res (List D)} (h : EvR ρ f r (A2 eD)) : EvR ρ f (r.bind asTups4) (A2 (eQ (qC eD (qC eD (qC eD (q1 eD)))))) := v_as h (fun a d c h1 h2 => mapR_A2 (fun _ _ => eq_4) h1 h2) fun a => mapR_nx (fun a c fs h => by unfold asTup4 at h; split at h <;> cases h) a
theorem v_tups5 {f : DL.Env → Res (List D)} {r : Res (List D)} (h : EvR ρ f r (A2 eD)) : EvR ρ f (r.bind asTups5) (A2 (eQ (qC eD (qC eD (qC eD (qC eD (q1 eD))))))) := v_as h (fun a d c h1 h2 => mapR_A2 (fun _ _ => eq_5) h1 h2) fun a => mapR_nx (fun a c fs h => by unfold asTup5 at h; split at h <;> cases h) a
/-! kinds of things -/
section
variable {E : RE α} {Q : α → List D → Prop}
theorem isInt_Int (a : Int) : ∀ x, eI a x → Rf (isInt x) (.ok true) eB := by rintro _ rfl; exact ⟨_, rfl, rfl⟩
theorem isInt_Bool (a : Bool) : ∀ x, eB a x → Rf (isInt x) (.ok true) eB := by rintro _ rfl; exact ⟨_, rfl, rfl⟩
theorem isInt_Row (a : List Int) : ∀ x, eR a x → Rf (isInt x) (.ok false) eB := by rintro _ rfl; exact ⟨_, rfl, rfl⟩
theorem isInt_Tup (a : List α) : ∀ x, eT E a x → Rf (isInt x) (.ok false) eB := by rintro _ ⟨_, rfl, _⟩; exact ⟨_, rfl, rfl⟩
theorem isInt_List (a : List α) : ∀ x, eL E a x → Rf (isInt x) (.ok false) eB := by rintro _ ⟨_, rfl, _⟩; exact ⟨_, rfl, rfl⟩
theorem isInt_Prod (a : α) : ∀ x, eQ Q a x → Rf (isInt x) (.ok false) eB := by rintro _ ⟨_, rfl, _⟩; exact ⟨_, rfl, rfl⟩
theorem isBool_Int (a : Int) : ∀ x, eI a x → Rf (isBool x) (.ok false) eB := by rintro _ rfl; exact ⟨_, rfl, rfl⟩
theorem isBool_Bool (a : Bool) : ∀ x, eB a x → Rf (isBool x) (.ok true) eB := by rintro _ rfl; exact ⟨_, rfl, rfl⟩
theorem isBool_Row (a : List Int) : ∀ x, eR a x → Rf (isBool x) (.ok false) eB := by rintro _ rfl; exact ⟨_, rfl, rfl⟩
theorem isTup_Int (a : Int) : ∀ x, eI a x → Rf (isTup x) (.ok false) eB := by rintro _ rfl; exact ⟨_, rfl, rfl⟩
theorem isTup_Bool (a : Bool) : ∀ x, eB a x → Rf (isTup x) (.ok false) eB := by rintro _ rfl; exact ⟨_, rfl, rfl⟩
theorem isTup_Row (a : List Int) : ∀ x, eR a x → Rf (isTup x) (.ok true) eB := by rintro _ rfl; exact ⟨_, rfl, rfl⟩
theorem isTup_Tup (a : List α) : ∀ x, eT E a x → Rf (isTup x) (.ok true) eB := by rintro _ ⟨_, rfl, _⟩; exact ⟨_, rfl, rfl⟩
theorem isTup_List (a : List α) : ∀ x, eL E a x → Rf (isTup x) (.ok false) eB := by rintro _ ⟨_, rfl, _⟩; exact ⟨_, rfl, rfl⟩
theorem isTup_Prod (a : α) : ∀ x, eQ Q a x → Rf (isTup x) (.ok true) eB := by rintro _ ⟨_, rfl, _⟩; exact ⟨_, rfl, rfl⟩
theorem isList_Tup (a : List α) : ∀ x, eT E a x → Rf (isList x) (.ok false) eB := by rintro _ ⟨_, rfl, _⟩; exact ⟨_, rfl, rfl⟩
theorem isList_Row (a : List Int) : ∀ x, eR a x → Rf (isList x) (.ok false) eB := by rintro _ rfl; exact ⟨_, rfl, rfl⟩
theorem isList_List (a : List α) : ∀ x, eL E a x → Rf (isList x) (.ok true) eB := by rintro _ ⟨_, rfl, _⟩; exact ⟨_, rfl, rfl⟩
theorem isStr_Str (a : Str) : ∀ x, eS a x → Rf (isStr x) (.ok true) eB := by rintro _ rfl; exact ⟨_, rfl, rfl⟩
theorem isStr_Int (a : Int) : ∀ x, eI a x → Rf (isStr x) (.ok false) eB := by rintro _ rfl; exact ⟨_, rfl, rfl⟩
end
theorem o_rev {E : RE α} (l : List α) : ∀ x, eL E l x → Rf (dRev x) (.ok l.reverse) (eL E) := by rintro _ ⟨ds, rfl, r⟩; exact ⟨_, rfl, _, rfl, r.reverse⟩
/-! dicts: displays, copies, equality -/
theorem v_disp {l : List (Key × (DL.Env → Res D))} {ks : List Str} {r : Res (List α)} {E : RE α} (hk : l.map (·.1) = ks.map Sum.inr) (h : EvR ρ (eVals l) r (A2 E)) : EvR ρ (eDisp l) (r.bind fun vs => .ok (ks.zip vs)) (eM false D.str E) := fun e le => by
  unfold eDisp
  refine (h e le).bind fun vs ds hd => ⟨_, rfl, _, rfl, ?_⟩
  rw [hk]
  have gen : ∀ (ks : List Str) (vs : List α) (ds : List D), A2 E vs ds → A2 (fun (p : Str × α) (q : D × D) => q.1 = D.str p.1 ∧ E p.2 q.2) (ks.zip vs) (kzipD (ks.map Sum.inr) ds) := by
    intro ks
    induction ks with
    | nil => intro vs ds h; exact rfl
    | cons k ks ih =>
      intro vs ds h
      cases vs with
      | nil => rw [show ds = [] from h]; exact rfl
      | cons v vs => obtain ⟨d, r, rfl, h1, h2⟩ := h; exact ⟨_, _, rfl, ⟨rfl, h1⟩, ih vs r h2⟩
  exact gen ks vs ds hd
theorem o_dict {f : α → D} {E : RE β} (m : List (α × β)) : ∀ x, eM false f E m x → Rf (dDict x) (.ok m) (eM false f E) := by rintro _ ⟨kvs, rfl, h⟩; exact ⟨_, rfl, _, rfl, h⟩
open Classical in
/-- dicts that are alike (that they are not is not told) -/
noncomputable def eqDR [DecidableEq α] (a b : List (α × Int)) : Res Bool := if a.length = b.length ∧ ∀ p ∈ a, getG b p.1 = some p.2 then .ok true else .bad
theorem a2_mem {E : α → β → Prop} : ∀ {l : List α} {r : List β}, A2 E l r → ∀ d ∈ r, ∃ a ∈ l, E a d
  | [], _, h, d, hd => by rw [show _ = [] from h] at hd; cases hd
  | a :: l, _, ⟨d', r, rfl, h1, h2⟩, d, hd => by
    rcases List.mem_cons.mp hd with rfl | hd
    · exact ⟨a, List.mem_cons_self, h1⟩
    · obtain ⟨b, hb, h3⟩ := a2_mem h2 d hd
      exact ⟨b, List.mem_cons_of_mem _ hb, h3⟩
theorem o_eqD [DecidableEq α] {f : α → D} (K : KeyF false f) (a b : List (α × Int)) : ∀ x y, eM false f eI a x → eM false f eI b y → Rf (dEqD x y) (eqDR a b) eB := by
  rintro _ _ ⟨kvs, rfl, h⟩ ⟨lvs, rfl, k⟩
  unfold eqDR
  by_cases c : a.length = b.length ∧ ∀ p ∈ a, getG b p.1 = some p.2
  · rw [if_pos c]
    refine ⟨_, if_pos ⟨by rw [h.length, k.length]; exact c.1, fun q hq => ?_⟩, rfl⟩
    obtain ⟨p, hp, h1, h2⟩ := a2_mem h q hq
    have := find_A2 K p.1 k
    rw [c.2 p hp] at this
    obtain ⟨d, h3, h4⟩ := this
    rw [h1, h3, show d = _ from h4, show q.2 = _ from h2]
    exact ⟨rfl, rfl⟩
  · rw [if_neg c]; trivial
/-! slices with a step -/
theorem pick_A2 {E : RE α} {l : List α} {ds : List D} (h : A2 E l ds) (lo hi st : Option Int) : A2 E (pickL l lo hi st) (pickL ds lo hi st) := by
  unfold pickL
  rw [h.length]
  generalize sliceRange _ _ _ = is
  induction is with
  | nil => rfl
  | cons i is ih =>
    rw [List.filterMap_cons, List.filterMap_cons]
    cases q : l[i]? with
    | none =>
      have : ds[i]? = none := by rw [List.getElem?_eq_none_iff] at q ⊢; rw [h.length]; exact q
      rw [this]; exact ih
    | some a =>
      obtain ⟨d, h1, h2⟩ := h.get q
      rw [h1]; exact ⟨_, _, rfl, h2, ih⟩
theorem v_cutS {f : DL.Env → Res D} {fl fh fk : DL.Env → Res (Option Int)} {lo hi : Option Int} {k : Int} {E : RE α} {l : List α} (h : EvR ρ f (.ok l) (eL E)) (hl : EvR ρ fl (.ok lo) Eqv) (hh : EvR ρ fh (.ok hi) Eqv) (hk : EvR ρ fk (.ok (some k)) Eqv) (k0 : k ≠ 0) : EvR ρ (eCutS f fl fh fk) (.ok (pickL l lo hi (some k))) (eL E) := fun e le => by
  obtain ⟨_, h1, ds, rfl, h2⟩ := h e le
  obtain ⟨_, a1, rfl⟩ := hl e le
  obtain ⟨_, b1, rfl⟩ := hh e le
  obtain ⟨_, c1, rfl⟩ := hk e le
  unfold eCutS
  rw [h1, a1, b1, c1]
  simp only [Res.bind_ok]
  rw [if_neg k0]
  exact ⟨_, rfl, _, rfl, pick_A2 h2 _ _ _⟩
end
end DL

/-! What typed reckonings come to: they end well, and with what. -/
namespace DL
open PySem PySem.Spec PyProof.Rows L2
open PySem.Builtin.Int (intBits)
/-- it ends well, with what P says -/
def Ok {α : Type} (r : Res α) (P : α → Prop) : Prop := ∃ a, r = .ok a ∧ P a
section
variable {α β S R : Type}
theorem Ok.ok {a : α} {P : α → Prop} (h : P a) : Ok (.ok a) P := ⟨a, rfl, h⟩
theorem Ok.of {r : Res α} {a : α} {P : α → Prop} (e : r = .ok a) (h : P a) : Ok r P := ⟨a, e, h⟩
theorem Ok.bind {r : Res α} {f : α → Res β} {P : α → Prop} {Q : β → Prop} (h : Ok r P) (k : ∀ a, P a → Ok (f a) Q) : Ok (r.bind f) Q := by
  obtain ⟨a, rfl, h⟩ := h
  exact k a h
theorem Ok.imp {r : Res α} {P Q : α → Prop} (h : Ok r P) (k : ∀ a, P a → Q a) : Ok r Q := by
  obtain ⟨a, e, h⟩ := h
  exact ⟨a, e, k a h⟩
theorem Ok.and {r : Res α} {P Q : α → Prop} (h : Ok r P) (k : Ok r Q) : Ok r fun a => P a ∧ Q a := by
  obtain ⟨a, e, h⟩ := h
  obtain ⟨b, e', k⟩ := k
  rw [e] at e'; cases e'
  exact ⟨a, e, h, k⟩
theorem Ok.ite {c : Prop} [Decidable c] {a b : Res α} {P : α → Prop} (h : c → Ok a P) (k : ¬ c → Ok b P) : Ok (if c then a else b) P := by
  by_cases q : c
  · rw [if_pos q]; exact h q
  · rw [if_neg q]; exact k q
theorem Ok.eq {r : Res α} {a : α} (h : Ok r fun x => x = a) : r = .ok a := by obtain ⟨b, e, rfl⟩ := h; exact e
theorem Ok.get {r : Res α} {P : α → Prop} (h : Ok r P) : ∃ a, r = .ok a ∧ P a := h
/-! numbers -/
theorem Sm.abs {n : Nat} {i : Int} (h : -((2 ^ n : Nat) : Int) < i) (k : i < ((2 ^ n : Nat) : Int)) : Sm n i := by unfold Sm; omega
theorem Sm.lit {i : Int} (n : Nat) (h : i.natAbs < 2 ^ n) : Sm n i := h
theorem sm64 {i : Int} (h : -1000000000000000000 ≤ i) (k : i ≤ 1000000000000000000) : Sm 64 i := by
  have e : (2 : Nat) ^ 64 = 18446744073709551616 := by decide
  show i.natAbs < 2 ^ 64
  omega
theorem mulR_s {i j : Int} (h : -1000000000000000000 ≤ i) (k : i ≤ 1000000000000000000) (h' : -1000000000000000000 ≤ j) (k' : j ≤ 1000000000000000000) : mulR i j = .ok (i * j) := mulR_ok (sm64 h k) (sm64 h' k') (by decide)
theorem mulR_l {n : Nat} {i j : Int} (h : Sm n i) (hn : n ≤ 100000000) (h' : -1000000000000000000 ≤ j) (k' : j ≤ 1000000000000000000) : mulR i j = .ok (i * j) := mulR_ok h (sm64 h' k') (by unfold big; omega)
theorem mulR_r {n : Nat} {i j : Int} (h : Sm n j) (hn : n ≤ 100000000) (h' : -1000000000000000000 ≤ i) (k' : i ≤ 1000000000000000000) : mulR i j = .ok (i * j) := mulR_ok (sm64 h' k') h (by unfold big; omega)
theorem divR_s {i j : Int} (h : 0 < j) (k : j ≤ 1000000000000000000) : divR i j = .ok (i / j) := divR_pos h (sm64 (by omega) k) (by decide)
theorem Sm.sum : ∀ {l : List Int} {n : Nat}, (∀ z ∈ l, Sm n z) → l.length ≤ 64 → Sm (n + 6) l.sum := by
  have gen : ∀ (l : List Int) (n : Nat), (∀ z ∈ l, Sm n z) → l.sum.natAbs ≤ l.length * 2 ^ n := by
    intro l n
    induction l with
    | nil => intro _; exact Nat.zero_le _
    | cons z l ih =>
      intro h
      have a := ih fun y hy => h y (List.mem_cons_of_mem _ hy)
      have b : z.natAbs < 2 ^ n := h z List.mem_cons_self
      rw [List.sum_cons, List.length_cons, Nat.succ_mul]
      omega
  intro l n h hl
  by_cases hz : l = []
  · subst hz; show (0 : Int).natAbs < _; exact Nat.two_pow_pos _
  have a := gen l n h
  by_cases h63 : l.length ≤ 63
  · show l.sum.natAbs < 2 ^ (n + 6)
    rw [Nat.pow_add]
    have : l.length * 2 ^ n ≤ 63 * 2 ^ n := Nat.mul_le_mul_right _ h63
    have := Nat.two_pow_pos n
    omega
  · show l.sum.natAbs < 2 ^ (n + 6)
    have strict : ∀ (l : List Int), l ≠ [] → (∀ z ∈ l, Sm n z) → l.sum.natAbs < l.length * 2 ^ n := by
      intro l
      induction l with
      | nil => intro h; exact absurd rfl h
      | cons z l ih =>
        intro _ h
        have b : z.natAbs < 2 ^ n := h z List.mem_cons_self
        have a := gen l n fun y hy => h y (List.mem_cons_of_mem _ hy)
        rw [List.sum_cons, List.length_cons, Nat.succ_mul]
        omega
    have := strict l hz h
    rw [Nat.pow_add]
    have : l.length * 2 ^ n ≤ 64 * 2 ^ n := Nat.mul_le_mul_right _ hl
    omega
theorem sm_bits {z : Int} {n : Nat} (h : intBits z ≤ n) : Sm n z := Sm.bits.mpr h
/-! lists -/
theorem fits_of {n : Nat} (h : n ≤ 10000000) : Fits n := by unfold Fits; rw [PySem.sizeLine_eq]; omega
theorem Ok.getL {l : List α} {i : Int} {P : α → Prop} (h : -(l.length : Int) ≤ i) (k : i < l.length) (q : ∀ a ∈ l, P a) : Ok (getL l i) P := by
  obtain ⟨a, m, e⟩ := getL_mem h k
  exact ⟨a, e, q a m⟩
theorem Ok.catR {a b : List α} {P : List α → Prop} (h : a.length + b.length ≤ 10000000) (q : P (a ++ b)) : Ok (catR a b) P := ⟨_, catR_ok h, q⟩
theorem Ok.appR {a : List α} {x : α} {P : List α → Prop} (h : a.length ≤ 10000000) (q : P (a ++ [x])) : Ok (appR a x) P := ⟨_, appR_ok h, q⟩
theorem rangeI_nat (n : Nat) : rangeI 0 (n : Int) = (List.range n).map fun (i : Nat) => (i : Int) := by
  unfold rangeI
  simp
theorem rangeI_len (m n : Int) : (rangeI m n).length = (n - m).toNat := by unfold rangeI; simp
theorem rangeI_mem {m n i : Int} : i ∈ rangeI m n ↔ m ≤ i ∧ i < n := by
  unfold rangeI
  simp only [List.mem_map, List.mem_range]
  constructor
  · rintro ⟨k, h1, h2⟩; omega
  · intro h; exact ⟨(i - m).toNat, by omega, by omega⟩
theorem Ok.rng1 {n : Int} {P : List Int → Prop} (h : -1000000000 ≤ n) (k : n ≤ 1000000000) (q : P (rangeI 0 n)) : Ok (rng1 n) P := ⟨_, rng1_ok h k, q⟩
theorem Ok.rng2 {m n : Int} {P : List Int → Prop} (h : -1000000000 ≤ m) (k : m ≤ 1000000000) (h' : -1000000000 ≤ n) (k' : n ≤ 1000000000) (q : P (rangeI m n)) : Ok (rng2 m n) P := ⟨_, rng2_ok h k h' k', q⟩
/-- each item by itself -/
theorem Ok.mapR {f : α → Res β} {P : α → β → Prop} : ∀ {l : List α}, (∀ a ∈ l, Ok (f a) (P a)) → Ok (mapR l f) fun bs => A2 P l bs
  | [], _ => ⟨[], rfl, rfl⟩
  | a :: l, h => by
    obtain ⟨b, e, hb⟩ := h a List.mem_cons_self
    obtain ⟨bs, e', hbs⟩ := Ok.mapR (l := l) fun x hx => h x (List.mem_cons_of_mem _ hx)
    exact ⟨b :: bs, by unfold DL.mapR; rw [e, e']; rfl, b, bs, rfl, hb, hbs⟩
theorem Ok.compR {f : α → Res β} {P : α → β → Prop} {Q : List β → Prop} {l : List α} (hl : l.length ≤ 10000000) (h : ∀ a ∈ l, Ok (f a) (P a)) (q : ∀ bs, A2 P l bs → Q bs) : Ok (compR l f) Q := by
  obtain ⟨bs, e, hb⟩ := Ok.mapR h
  refine ⟨bs, ?_, q bs hb⟩
  unfold DL.compR
  rw [if_pos (fits_of hl), e]
  rfl
theorem mapR_fn {f : α → Res β} {g : α → β} : ∀ {l : List α}, (∀ a ∈ l, f a = .ok (g a)) → DL.mapR l f = .ok (l.map g)
  | [], _ => rfl
  | a :: l, h => by unfold DL.mapR; rw [h a List.mem_cons_self, mapR_fn fun x hx => h x (List.mem_cons_of_mem _ hx)]; rfl
theorem compR_fn {f : α → Res β} {g : α → β} {l : List α} (hl : l.length ≤ 10000000) (h : ∀ a ∈ l, f a = .ok (g a)) : DL.compR l f = .ok (l.map g) := by
  unfold DL.compR
  rw [if_pos (fits_of hl), mapR_fn h]
  rfl
theorem filR_fn {c : α → Res Bool} {f : α → Res β} {d : α → Bool} {g : α → β} : ∀ {l : List α}, (∀ a ∈ l, c a = .ok (d a)) → (∀ a ∈ l, d a = true → f a = .ok (g a)) → DL.filR l c f = .ok ((l.filter d).map g)
  | [], _, _ => rfl
  | a :: l, h, k => by
    have ih := filR_fn (l := l) (fun x hx => h x (List.mem_cons_of_mem _ hx)) (fun x hx => k x (List.mem_cons_of_mem _ hx))
    unfold DL.filR
    rw [h a List.mem_cons_self, Res.bind_ok, ih]
    by_cases q : d a = true
    · rw [if_pos q, k a List.mem_cons_self q, List.filter_cons, if_pos q]; rfl
    · rw [if_neg q, List.filter_cons, if_neg q]
theorem compF_fn {c : α → Res Bool} {f : α → Res β} {d : α → Bool} {g : α → β} {l : List α} (hl : l.length ≤ 10000000) (h : ∀ a ∈ l, c a = .ok (d a)) (k : ∀ a ∈ l, d a = true → f a = .ok (g a)) : DL.compF l c f = .ok ((l.filter d).map g) := by
  unfold DL.compF
  rw [if_pos (fits_of hl), filR_fn h k]
  rfl
/-- a loop with an invariant over the items done -/
theorem Ok.forR {f : α → S → Res S} {l : List α} {s : S} (I : List α → S → Prop) (h0 : I [] s) (h : ∀ d a r s, l = d ++ a :: r → I d s → Ok (f a s) (I (d ++ [a]))) : Ok (forR l s f) (I l) := by
  have gen : ∀ (r d : List α) (s : S), l = d ++ r → I d s → Ok (DL.forR r s f) (I l) := by
    intro r
    induction r with
    | nil => intro d s e hI; rw [e, List.append_nil]; exact ⟨s, rfl, hI⟩
    | cons a r ih =>
      intro d s e hI
      unfold DL.forR
      exact (h d a r s e hI).bind fun s' hs' => ih (d ++ [a]) s' (by rw [e, List.append_assoc]; rfl) hs'
  exact gen l [] s rfl h0
/-- .. that reckons g -/
theorem forR_fn {f : α → S → Res S} {g : S → α → S} {l : List α} {s : S} (I : List α → S → Prop) (h0 : I [] s) (h : ∀ d a r s, l = d ++ a :: r → I d s → f a s = .ok (g s a) ∧ I (d ++ [a]) (g s a)) : DL.forR l s f = .ok (l.foldl g s) := by
  have gen : ∀ (r d : List α) (s : S), l = d ++ r → I d s → DL.forR r s f = .ok (r.foldl g s) := by
    intro r
    induction r with
    | nil => intro d s e hI; rfl
    | cons a r ih =>
      intro d s e hI
      unfold DL.forR
      obtain ⟨e1, hI'⟩ := h d a r s e hI
      rw [e1]
      exact ih (d ++ [a]) _ (by rw [e, List.append_assoc]; rfl) hI'
  exact gen l [] s rfl h0
/-- a loop that appends one thing a turn -/
theorem Ok.forA {f : α → List β → Res (List β)} {P : α → β → Prop} {l : List α} {s : List β} (hl : s.length + l.length ≤ 10000000) (h : ∀ a ∈ l, ∀ s' : List β, s'.length ≤ 10000000 → Ok (f a s') fun s'' => ∃ b, P a b ∧ s'' = s' ++ [b]) : Ok (DL.forR l s f) fun s' => ∃ bs, A2 P l bs ∧ s' = s ++ bs := by
  refine Ok.imp (Ok.forR (fun d s' => ∃ bs, A2 P d bs ∧ s' = s ++ bs) ⟨[], rfl, by simp⟩ ?_) fun _ h => h
  rintro d a r s' e ⟨bs, h1, rfl⟩
  have len : (s ++ bs).length ≤ 10000000 := by rw [List.length_append, h1.length]; have := congrArg List.length e; simp at this; omega
  refine (h a (by rw [e]; simp) _ len).imp ?_
  rintro _ ⟨b, hb, rfl⟩
  exact ⟨bs ++ [b], h1.append ⟨b, [], rfl, hb, rfl⟩, by rw [List.append_assoc]⟩
/-- a loop that appends some things a turn -/
theorem forR_flat {f : α → List β → Res (List β)} {g : α → List β} {l : List α} {s : List β} (hl : s.length + (l.flatMap g).length ≤ 10000000) (h : ∀ a ∈ l, ∀ s' : List β, s'.length + (g a).length ≤ 10000000 → f a s' = .ok (s' ++ g a)) : DL.forR l s f = .ok (s ++ l.flatMap g) := by
  induction l generalizing s with
  | nil => rw [List.flatMap_nil, List.append_nil]; rfl
  | cons a l ih =>
    rw [List.flatMap_cons, List.length_append] at hl
    unfold DL.forR
    rw [h a List.mem_cons_self s (by omega), Res.bind_ok, ih (by rw [List.length_append]; omega) fun x hx => h x (List.mem_cons_of_mem _ hx), List.flatMap_cons, List.append_assoc]
/-- a loop all of whose turns go on -/
theorem forX_all {f : α → S → Res (Oc S R)} {l : List α} {s : S} (I : List α → S → Prop) (h0 : I [] s) (h : ∀ d a r s, l = d ++ a :: r → I d s → Ok (f a s) fun o => ∃ s', o = .nx s' ∧ I (d ++ [a]) s') : Ok (forX l s f) fun o => ∃ s', o = .nx s' ∧ I l s' := by
  have gen : ∀ (r d : List α) (s : S), l = d ++ r → I d s → Ok (DL.forX r s f) fun o => ∃ s', o = .nx s' ∧ I l s' := by
    intro r
    induction r with
    | nil => intro d s e hI; rw [e, List.append_nil]; exact ⟨_, rfl, s, rfl, hI⟩
    | cons a r ih =>
      intro d s e hI
      unfold DL.forX
      refine (h d a r s e hI).bind ?_
      rintro _ ⟨s', rfl, hs'⟩
      exact ih (d ++ [a]) s' (by rw [e, List.append_assoc]; rfl) hs'
  exact gen l [] s rfl h0
theorem forX_unit {f : α → Unit → Res (Oc Unit R)} {l : List α} (h : ∀ a ∈ l, f a () = .ok (.nx ())) : forX l () f = .ok (.nx ()) := by
  induction l with
  | nil => rfl
  | cons a l ih => unfold DL.forX; rw [h a List.mem_cons_self]; exact ih fun x hx => h x (List.mem_cons_of_mem _ hx)
@[simp] theorem thenX_nx {T : Type} (s : S) (m : R → T) (k : S → Res T) : thenX (.ok (.nx s)) m k = k s := Eq.trans rfl rfl
@[simp] theorem thenX_rt {T : Type} (v : R) (m : R → T) (k : S → Res T) : thenX (.ok (.rt v) : Res (Oc S R)) m k = .ok (m v) := Eq.trans rfl rfl
theorem Ok.thenX {T : Type} {r : Res (Oc S R)} {m : R → T} {k : S → Res T} {P : S → Prop} {Q : T → Prop} (h : Ok r fun o => ∃ s', o = .nx s' ∧ P s') (q : ∀ s, P s → Ok (k s) Q) : Ok (DL.thenX r m k) Q := by
  obtain ⟨_, rfl, s, rfl, hs⟩ := h
  exact q s hs
theorem sortKR_ok {l : List (List Int)} (h : l.length ≤ 10000000) : sortKR l = .ok (sortK l) := if_pos (fits_of h)
theorem sortIR_ok {l : List Int} (h : l.length ≤ 10000000) : sortIR l = .ok (l.mergeSort fun a b => decide (a ≤ b)) := if_pos (fits_of h)
/-! while -/
theorem whX_eq {c : S → Res Bool} {f : S → Res (Oc S R)} (s : S) : whX c f s = (c s).bind fun b => if b = true then (f s).bind fun o => (match o with
    | .nx s' => whX c f s'
    | .bk s' => .ok (.nx s')
    | .rt v => .ok (.rt v)) else .ok (.nx s) := by
  have more : ∀ (n m : Nat) (s : S), (whN c f n s).fine → n ≤ m → whN c f m s = whN c f n s := by
    intro n
    induction n with
    | zero => intro m s h; exact h.elim
    | succ n ih =>
      intro m s h hm
      obtain ⟨m, rfl⟩ : ∃ k, m = k + 1 := ⟨m - 1, by omega⟩
      unfold whN at h ⊢
      cases hc : c s with
      | ok b =>
        rw [hc] at h
        simp only [Res.bind_ok] at h ⊢
        cases b with
        | false => rfl
        | true =>
          simp only [if_true] at h ⊢
          cases hf : f s with
          | ok o =>
            rw [hf] at h
            simp only [Res.bind_ok] at h ⊢
            cases o with
            | nx s' => exact ih m s' h (by omega)
            | bk s' => rfl
            | rt v => rfl
          | exc cc fs => rfl
          | bad => rfl
      | exc cc fs => rfl
      | bad => rfl
  have of : ∀ (n : Nat) (s : S), (whN c f n s).fine → whX c f s = whN c f n s := by
    intro n s h
    have ex : ∃ n, (whN c f n s).fine := ⟨n, h⟩
    unfold whX
    rw [dif_pos ex]
    rcases Nat.le_total n (Classical.choose ex) with z | z
    · exact more n _ s h z
    · exact (more _ n s (Classical.choose_spec ex) z).symm
  by_cases ex : ∃ n, (whN c f n s).fine
  · obtain ⟨n, hn⟩ := ex
    cases n with
    | zero => exact hn.elim
    | succ n =>
      rw [of _ _ hn]
      unfold whN at hn ⊢
      cases hc : c s with
      | ok b =>
        rw [hc] at hn
        simp only [Res.bind_ok] at hn ⊢
        cases b with
        | false => rfl
        | true =>
          simp only [if_true] at hn ⊢
          cases hf : f s with
          | ok o =>
            rw [hf] at hn
            simp only [Res.bind_ok] at hn ⊢
            cases o with
            | nx s' => exact (of n s' hn).symm
            | bk s' => rfl
            | rt v => rfl
          | exc cc fs => rfl
          | bad => rfl
      | exc cc fs => rfl
      | bad => rfl
  · have e0 : whX c f s = .bad := by unfold whX; rw [dif_neg ex]
    rw [e0]
    have no : ∀ n, ¬ (whN c f n s).fine := fun n h => ex ⟨n, h⟩
    cases hc : c s with
    | ok b =>
      cases b with
      | false => exact absurd (by unfold whN; rw [hc]; trivial) (no 1)
      | true =>
        simp only [Res.bind_ok, if_true]
        cases hf : f s with
        | ok o =>
          simp only [Res.bind_ok]
          cases o with
          | nx s' =>
            dsimp only
            unfold whX
            rw [dif_neg]
            rintro ⟨n, hn⟩
            exact no (n + 1) (by unfold whN; rw [hc]; simp only [Res.bind_ok, if_true]; rw [hf]; exact hn)
          | bk s' => exact absurd (by unfold whN; rw [hc]; simp only [Res.bind_ok, if_true]; rw [hf]; trivial) (no 1)
          | rt v => exact absurd (by unfold whN; rw [hc]; simp only [Res.bind_ok, if_true]; rw [hf]; trivial) (no 1)
        | exc cc fs => exact absurd (by unfold whN; rw [hc]; simp only [Res.bind_ok, if_true]; rw [hf]; trivial) (no 1)
        | bad => rfl
    | exc cc fs => exact absurd (by unfold whN; rw [hc]; trivial) (no 1)
    | bad => rfl
theorem whR_eq {c : S → Res Bool} {f : S → Res S} (s : S) : whR c f s = (c s).bind fun b => if b = true then (f s).bind fun s' => whR c f s' else .ok s := by
  unfold whR
  rw [whX_eq]
  cases c s with
  | ok b =>
    cases b with
    | false => rfl
    | true =>
      simp only [Res.bind_ok, if_true]
      cases f s <;> rfl
  | exc cc fs => rfl
  | bad => rfl
end
end DL
namespace DL
theorem a2_mem' {α β : Type} {E : α → β → Prop} : ∀ {l : List α} {r : List β}, A2 E l r → ∀ a ∈ l, ∃ d, d ∈ r ∧ E a d
  | a :: l, _, ⟨d', r, rfl, h1, h2⟩, b, hb => by
    rcases List.mem_cons.mp hb with rfl | hb
    · exact ⟨d', List.mem_cons_self, h1⟩
    · obtain ⟨d, hd, h3⟩ := a2_mem' h2 b hb
      exact ⟨d, List.mem_cons_of_mem _ hd, h3⟩
theorem a2_det {α β : Type} {E : α → β → Prop} (f : ∀ a x y, E a x → E a y → x = y) : ∀ {l : List α} {r s : List β}, A2 E l r → A2 E l s → r = s
  | [], _, _, h, k => by rw [show _ = [] from h, show _ = [] from k]
  | a :: l, _, _, ⟨d, r, rfl, h1, h2⟩, ⟨d', r', rfl, k1, k2⟩ => by rw [f a d d' h1 k1, a2_det f h2 k2]
end DL
namespace DL
theorem fTup_id : fTup (fun d => d) = D.tup := by funext l; show D.tup (l.map _) = _; rw [List.map_id']
theorem fTup_ap {α : Type} (f : α → D) (l : List α) : fTup f l = .tup (l.map f) := rfl
theorem fLst_ap {α : Type} (f : α → D) (l : List α) : fLst f l = .lst (l.map f) := rfl
theorem fPr_ap {α : Type} (f : α → List D) (a : α) : fPr f a = .tup (f a) := rfl
theorem fCons_ap {α β : Type} (f : α → D) (g : β → List D) (a : α) (b : β) : fCons f g (a, b) = f a :: g b := rfl
theorem fOne_ap {α : Type} (f : α → D) (a : α) : fOne f a = [f a] := rfl
end DL

/-! Typed readings: sets of lists, max with a default. -/
namespace DL
open PySem PySem.Spec PyProof.Rows L2
section
variable {α : Type}
theorem keys_I : ∀ l : List Int, D.keys (l.map D.int) = some (l.map Sum.inl)
  | [] => rfl
  | i :: l => by rw [List.map_cons, D.keys, keys_I l]; rfl
theorem keys_S : ∀ l : List Str, D.keys (l.map D.str) = some (l.map Sum.inr)
  | [] => rfl
  | i :: l => by rw [List.map_cons, D.keys, keys_S l]; rfl
open Classical in
noncomputable def nubL : List α → List α
  | [] => []
  | a :: l => if a ∈ nubL l then nubL l else a :: nubL l
theorem nubL_mem {a : α} : ∀ {l : List α}, a ∈ nubL l ↔ a ∈ l
  | [] => Iff.rfl
  | x :: r => by
    unfold nubL
    have ih := nubL_mem (a := a) (l := r)
    split
    · rename_i h
      rw [ih, List.mem_cons]
      exact ⟨.inr, fun z => z.elim (fun z => by rw [z]; exact nubL_mem.mp h) fun z => z⟩
    · rw [List.mem_cons, List.mem_cons, ih]
theorem nubL_nodup : ∀ l : List α, (nubL l).Nodup
  | [] => List.nodup_nil
  | x :: r => by
    unfold nubL
    split
    · exact nubL_nodup r
    · rename_i h; exact List.nodup_cons.mpr ⟨h, nubL_nodup r⟩
theorem nubL_len : ∀ l : List α, (nubL l).length ≤ l.length
  | [] => Nat.le_refl _
  | x :: r => by
    unfold nubL
    have := nubL_len r
    split <;> simp <;> omega
theorem nubL_id : ∀ {l : List α}, l.Nodup → nubL l = l
  | [], _ => rfl
  | x :: r, h => by
    obtain ⟨h1, h2⟩ := List.nodup_cons.mp h
    unfold nubL
    rw [nubL_id h2, if_neg h1]
theorem nubK_map {f : α → Key} (hf : ∀ a b, f a = f b → a = b) : ∀ l : List α, nubK (l.map f) = (nubL l).map f
  | [] => rfl
  | a :: l => by
    rw [List.map_cons, nubK, nubL, nubK_map hf l]
    have : f a ∈ (nubL l).map f ↔ a ∈ nubL l := by
      rw [List.mem_map]
      exact ⟨fun ⟨b, h1, h2⟩ => hf b a h2 ▸ h1, fun h => ⟨a, h, rfl⟩⟩
    by_cases h : a ∈ nubL l
    · rw [if_pos h, if_pos (this.mpr h)]
    · rw [if_neg h, if_neg (fun z => h (this.mp z))]; rfl
open Classical in
noncomputable def lenSetR (l : List α) : Res Int := if l.length ≤ mostK then .ok ((nubL l).length : Nat) else .bad
theorem o_lenSetI (l : List Int) : ∀ x, eL eI l x → Rf (dLenSet x) (lenSetR l) eI := by
  rintro _ ⟨ds, rfl, r⟩
  rw [A2.fn.mp r]
  unfold lenSetR
  by_cases h : l.length ≤ mostK
  · rw [if_pos h]
    exact ⟨_, by dsimp only [dLenSet]; rw [keys_I]; dsimp only; rw [if_pos (by rw [List.length_map]; exact h)], by rw [nubK_map (fun a b h => by injection h), List.length_map]; rfl⟩
  · rw [if_neg h]; trivial
theorem o_lenSetS (l : List Str) : ∀ x, eL eS l x → Rf (dLenSet x) (lenSetR l) eI := by
  rintro _ ⟨ds, rfl, r⟩
  rw [A2.fn.mp r]
  unfold lenSetR
  by_cases h : l.length ≤ mostK
  · rw [if_pos h]
    exact ⟨_, by dsimp only [dLenSet]; rw [keys_S]; dsimp only; rw [if_pos (by rw [List.length_map]; exact h)], by rw [nubK_map (fun a b h => by injection h), List.length_map]; rfl⟩
  · rw [if_neg h]; trivial
/-- texts in order -/
def leS (a b : Str) : Bool := leK (.inr a) (.inr b)
def sortS (l : List Str) : List Str := l.mergeSort leS
theorem sortKy_S (l : List Str) : sortKy (l.map Sum.inr) = (sortS l).map Sum.inr := by
  unfold sortKy sortS
  rw [List.map_mergeSort]
  intro a _ b _; rfl
def sortI (l : List Int) : List Int := l.mergeSort fun a b => decide (a ≤ b)
theorem leK_I (a b : Int) : leK (.inl a) (.inl b) = decide (a ≤ b) := le_int a b
theorem sortKy_I (l : List Int) : sortKy (l.map Sum.inl) = (sortI l).map Sum.inl := by
  unfold sortKy sortI
  rw [List.map_mergeSort]
  intro a _ b _
  exact (leK_I a b).symm
theorem sortI_up (l : List Int) : (sortI l).Pairwise (· ≤ ·) := by
  have := List.pairwise_mergeSort (le := fun (a b : Int) => decide (a ≤ b)) (fun a b c h k => by simp at *; omega) (fun a b => by simp; omega) l
  exact this.imp fun h => by simpa using h
theorem sortI_perm (l : List Int) : (sortI l).Perm l := List.mergeSort_perm l _
theorem sortI_ext {l m : List Int} (p : l.Perm m) : sortI l = sortI m :=
  List.Perm.eq_of_pairwise (le := fun a b : Int => a ≤ b) (fun a b _ _ h k => Int.le_antisymm h k) (sortI_up l) (sortI_up m) (((sortI_perm l).trans p).trans (sortI_perm m).symm)
theorem sortI_id {l : List Int} (h : l.Pairwise (· ≤ ·)) : sortI l = l :=
  List.Perm.eq_of_pairwise (le := fun a b : Int => a ≤ b) (fun a b _ _ h k => Int.le_antisymm h k) (sortI_up l) h (sortI_perm l)
theorem leS_trans (a b c : Str) (h : leS a b = true) (k : leS b c = true) : leS a c = true := leK_trans _ _ _ h k
theorem leS_total (a b : Str) : (leS a b || leS b a) = true := leK_total _ _
theorem leS_anti {a b : Str} (h : leS a b = true) (k : leS b a = true) : a = b := by have := leK_anti h k; injection this
theorem sortS_up (l : List Str) : (sortS l).Pairwise (fun a b => leS a b = true) := List.pairwise_mergeSort leS_trans leS_total l
theorem sortS_perm (l : List Str) : (sortS l).Perm l := List.mergeSort_perm l _
theorem sortS_ext {l m : List Str} (p : l.Perm m) : sortS l = sortS m :=
  List.Perm.eq_of_pairwise (le := fun a b => leS a b = true) (fun a b _ _ h k => leS_anti h k) (sortS_up l) (sortS_up m) (((sortS_perm l).trans p).trans (sortS_perm m).symm)
theorem sortS_id {l : List Str} (h : l.Pairwise (fun a b => leS a b = true)) : sortS l = l :=
  List.Perm.eq_of_pairwise (le := fun a b => leS a b = true) (fun a b _ _ h k => leS_anti h k) (sortS_up l) h (sortS_perm l)
open Classical in
noncomputable def sortSetI (l : List Int) : Res (List Int) := if l.length ≤ mostK then .ok (sortI (nubL l)) else .bad
theorem o_sortSetI (l : List Int) : ∀ x, eL eI l x → Rf (dSortSet x) (sortSetI l) (eL eI) := by
  rintro _ ⟨ds, rfl, r⟩
  rw [A2.fn.mp r]
  unfold sortSetI
  by_cases h : l.length ≤ mostK
  · rw [if_pos h]
    refine ⟨_, by dsimp only [dSortSet]; rw [keys_I]; dsimp only; rw [if_pos ⟨by rw [List.length_map]; exact h, .inl fun k hk => by obtain ⟨i, _, rfl⟩ := List.mem_map.mp hk; exact ⟨i, rfl⟩⟩], _, rfl, A2.fn.mpr ?_⟩
    rw [nubK_map (fun a b h => by injection h), sortKy_I, List.map_map]; rfl
  · rw [if_neg h]; trivial
open Classical in
noncomputable def sortSetS (l : List Str) : Res (List Str) := if l.length ≤ mostK ∧ ∀ x ∈ l, PyData.strOk x = true then .ok (sortS (nubL l)) else .bad
theorem o_sortSetS (l : List Str) : ∀ x, eL eS l x → Rf (dSortSet x) (sortSetS l) (eL eS) := by
  rintro _ ⟨ds, rfl, r⟩
  rw [A2.fn.mp r]
  unfold sortSetS
  by_cases h : l.length ≤ mostK ∧ ∀ x ∈ l, PyData.strOk x = true
  · rw [if_pos h]
    refine ⟨_, by dsimp only [dSortSet]; rw [keys_S]; dsimp only; rw [if_pos ⟨by rw [List.length_map]; exact h.1, .inr fun k hk => by obtain ⟨i, hi, rfl⟩ := List.mem_map.mp hk; exact ⟨i, rfl, h.2 i hi⟩⟩], _, rfl, A2.fn.mpr ?_⟩
    rw [nubK_map (fun a b h => by injection h), sortKy_S, List.map_map]; rfl
  · rw [if_neg h]; trivial
theorem sortSetI_ok {l : List Int} (h : l.length ≤ 4000) : sortSetI l = .ok (sortI (nubL l)) := if_pos h
theorem lenSetR_ok {l : List α} (h : l.length ≤ 4000) : lenSetR l = .ok ((nubL l).length : Nat) := if_pos h
theorem o_maxDef (c : Int) (l : List Int) : ∀ x, eL eI l x → Rf (dMaxDef c x) (.ok (maxDef c l)) eI := by
  rintro _ ⟨ds, rfl, r⟩
  rw [A2.fn.mp r]
  exact ⟨_, by dsimp only [dMaxDef]; rw [ints_of], rfl⟩
theorem v_chain3 {ρ : KEnv} {g g' g2 : D → D → Res D} {fa fb fc fd : DL.Env → Res D} {r r' r2 : Res Bool} (h : EvR ρ (eOp g fa fb) r eB) (h' : EvR ρ (eOp g' fb fc) r' eB) (h2 : EvR ρ (eOp g2 fc fd) r2 eB) :
    EvR ρ (eChain3 g g' g2 fa fb fc fd) (r.bind fun z => if z = true then (r'.bind fun z => if z = true then r2 else .ok false) else .ok false) eB := by
  -- the last two are a chain by themselves, behind the first one
  intro e l
  have a1 := h e l
  have a2 := (v_chain h' h2) e l
  unfold eChain3
  unfold eChain at a2
  unfold eOp at a1
  cases qa : fa e with
  | ok x =>
    rw [qa] at a1
    cases qb : fb e with
    | ok y =>
      rw [qb] at a1 a2
      simp only [Res.bind_ok] at a1 a2 ⊢
      refine a1.bind fun b d hd => ?_
      rw [show d = _ from hd]
      show Rf ((if b = true then _ else _ : Res D)) _ eB
      cases b with
      | true =>
        rw [if_pos rfl, if_pos rfl]
        exact a2
      | false => exact ⟨_, rfl, rfl⟩
    | exc c fs => rw [qb] at a1; cases r with
      | ok b => obtain ⟨_, z, _⟩ := a1; cases z
      | exc c' fs' => simp only [Res.bind_ok, Res.bind_exc] at a1 ⊢; rw [show Res.exc c fs = _ from a1]; rfl
      | bad => trivial
    | bad => rw [qb] at a1; cases r with
      | ok b => obtain ⟨_, z, _⟩ := a1; cases z
      | exc c' fs' => cases a1
      | bad => trivial
  | exc c fs => rw [qa] at a1; cases r with
    | ok b => obtain ⟨_, z, _⟩ := a1; cases z
    | exc c' fs' => simp only [Res.bind_exc] at a1 ⊢; rw [show Res.exc c fs = _ from a1]; rfl
    | bad => trivial
  | bad => rw [qa] at a1; cases r with
    | ok b => obtain ⟨_, z, _⟩ := a1; cases z
    | exc c' fs' => cases a1
    | bad => trivial
theorem v_chain3P {ρ : KEnv} {g g' g2 : D → D → Res D} {fa fb fc fd : DL.Env → Res D} {P Q R : Prop} [Decidable P] [Decidable Q] [Decidable R] (h : EvR ρ (eOp g fa fb) (.ok (decide P)) eB) (h' : EvR ρ (eOp g' fb fc) (.ok (decide Q)) eB) (h2 : EvR ρ (eOp g2 fc fd) (.ok (decide R)) eB) :
    EvR ρ (eChain3 g g' g2 fa fb fc fd) (.ok (decide (P ∧ Q ∧ R))) eB := fun e l => by
  have := v_chain3 h h' h2 e l
  rw [show (Res.ok (decide P)).bind (fun z => if z = true then ((Res.ok (decide Q)).bind fun z => if z = true then Res.ok (decide R) else .ok false) else .ok false) = .ok (decide (P ∧ Q ∧ R)) by by_cases h : P <;> by_cases k : Q <;> simp [h, k]] at this
  exact this
theorem v_meth2 {ρ : KEnv} {T : String} {g : D → List D → Res D} {fo fs : DL.Env → Res D} {α β γ : Type} {Eo : RE α} {Ea : RE β} {Ec : RE γ} {ro : Res α} {ra : Res β} {gt : α → β → Res γ} (ty : ∀ a d, Eo a d → D.ofTy T d = true) (hg : ∀ a b x y, Eo a x → Ea b y → Rf (g x [y]) (gt a b) Ec) (ho : EvR ρ fo ro Eo) (ha : EvR ρ fs ra Ea) :
    EvR ρ (eMeth T g fo (aCons fs aNil)) (ro.bind fun a => ra.bind fun b => gt a b) Ec := fun e l => by
  unfold eMeth
  refine (ho e l).bind fun a x hx => ?_
  rw [if_pos (ty a x hx), aCons_app, aNil_app]
  have := (ha e l).bind (fun b y hy => hg a b x y hx hy)
  cases q : fs e with
  | ok y => rw [q] at this; exact this
  | exc c f => rw [q] at this; exact this
  | bad => rw [q] at this; exact this
theorem ty_L {E : RE α} (a : List α) : ∀ d, eL E a d → D.ofTy "list" d = true := by rintro _ ⟨ds, rfl, r⟩; rfl
theorem o_countI (l : List Int) (k : Int) : ∀ x y, eL eI l x → eI k y → Rf (dCountI x [y]) (.ok ((l.count k : Nat) : Int)) eI := by
  rintro _ _ ⟨ds, rfl, r⟩ rfl
  rw [A2.fn.mp r]
  exact ⟨_, by dsimp only [dCountI]; rw [ints_of], rfl⟩
open Classical in
/-- a list times a number -/
noncomputable def repR (l : List α) (k : Int) : Res (List α) := if -1000000000 ≤ k ∧ k ≤ 1000000000 ∧ Fits (l.length * k.toNat) then .ok (List.replicate k.toNat l).flatten else .bad
theorem rep_A2 {E : RE α} {l : List α} {ds : List D} (h : A2 E l ds) : ∀ n, A2 E (List.replicate n l).flatten (List.replicate n ds).flatten
  | 0 => rfl
  | n + 1 => by rw [List.replicate_succ, List.replicate_succ, List.flatten_cons, List.flatten_cons]; exact h.append (rep_A2 h n)
theorem o_rep {E : RE α} (l : List α) (k : Int) : ∀ x y, eL E l x → eI k y → Rf (dRep x y) (repR l k) (eL E) := by
  rintro _ _ ⟨ds, rfl, r⟩ rfl
  unfold repR
  by_cases h : -1000000000 ≤ k ∧ k ≤ 1000000000 ∧ Fits (l.length * k.toNat)
  · rw [if_pos h]
    exact ⟨_, if_pos ⟨h.1, h.2.1, by rw [r.length]; exact h.2.2⟩, _, rfl, rep_A2 r _⟩
  · rw [if_neg h]; trivial
theorem repR_one {a : α} {k : Int} (h0 : 0 ≤ k) (h : k ≤ 10000000) : repR [a] k = .ok (List.replicate k.toNat a) := by
  unfold repR
  rw [if_pos ⟨by omega, by omega, fits_of (by simp; omega)⟩]
  congr 1
  generalize k.toNat = n
  induction n with
  | zero => rfl
  | succ n ih => rw [List.replicate_succ, List.flatten_cons, ih]; rfl
/-! slices whose bounds may fail -/
theorem vo_sM {ρ : KEnv} {f : DL.Env → Res D} {r : Res Int} (h : EvR ρ f r eI) : EvR ρ (oSome f) (r.bind fun i => .ok (some i)) Eqv := fun e l => by
  rw [oSome_app]
  exact (h e l).bind fun i d hd => by rw [show d = _ from hd]; exact ⟨some i, rfl, rfl⟩
theorem v_cutM {ρ : KEnv} {f : DL.Env → Res D} {fl fh : DL.Env → Res (Option Int)} {E : RE (List α)} {r : Res (List α)} {rl rh : Res (Option Int)} (hE : ∀ a d lo hi, E a d → Rf (dCut lo hi d) (.ok (cutL a lo hi)) E) (h : EvR ρ f r E) (hl : EvR ρ fl rl Eqv) (hh : EvR ρ fh rh Eqv) :
    EvR ρ (eCut f fl fh) (r.bind fun l => rl.bind fun lo => rh.bind fun hi => .ok (cutL l lo hi)) E := fun e le => by
  rw [eCut_app]
  refine (h e le).bind fun a d hd => (hl e le).bind fun lo lo' hlo => (hh e le).bind fun hi hi' hhi => ?_
  rw [show lo' = lo from hlo, show hi' = hi from hhi]
  exact hE a d lo hi hd
theorem v_cutMF {ρ : KEnv} {f : DL.Env → Res D} {fl fh : DL.Env → Res (Option Int)} {E : RE α} {r : Res (List α)} {rl rh : Res (Option Int)} (h : EvR ρ f r (eL E)) (hl : EvR ρ fl rl Eqv) (hh : EvR ρ fh rh Eqv) :
    EvR ρ (eCutL f fl fh) (r.bind fun l => rl.bind fun lo => rh.bind fun hi => .ok (cutL l lo hi)) (eL E) := fun e le => by
  unfold eCutL
  refine (h e le).bind fun a d ⟨ds, h1, h2⟩ => (hl e le).bind fun lo lo' hlo => (hh e le).bind fun hi hi' hhi => ?_
  rw [show lo' = lo from hlo, show hi' = hi from hhi, h1]
  exact ⟨_, rfl, _, rfl, cutL_A2 h2 _ _⟩
theorem cut_L {E : RE α} (a : List α) (d : D) (lo hi : Option Int) (h : eL E a d) : Rf (dCut lo hi d) (.ok (cutL a lo hi)) (eL E) := by obtain ⟨ds, rfl, r⟩ := h; exact ⟨_, rfl, _, rfl, cutL_A2 r _ _⟩
theorem cut_T {E : RE α} (a : List α) (d : D) (lo hi : Option Int) (h : eT E a d) : Rf (dCut lo hi d) (.ok (cutL a lo hi)) (eT E) := by obtain ⟨ds, rfl, r⟩ := h; exact ⟨_, rfl, _, rfl, cutL_A2 r _ _⟩
theorem cut_R (a : List Int) (d : D) (lo hi : Option Int) (h : eR a d) : Rf (dCut lo hi d) (.ok (cutL a lo hi)) eR := by
  obtain ⟨x, e, k⟩ := cut_T a d lo hi (r_t a d h)
  exact ⟨x, e, t_r _ _ k⟩
end
end DL

/-! readings: a tuple times a number; more ways -/
namespace DL
open PySem PySem.Spec PyProof.Rows L2
section
variable {α : Type}
open Classical in
/-- a tuple times a number -/
noncomputable def repT (l : List α) (k : Int) : Res (List α) := if k = 1 then .ok l else if 2 ≤ k ∧ k ≤ 1000 ∧ l ≠ [] ∧ l.length ≤ 1000 then .ok (List.replicate k.toNat l).flatten else .bad
theorem o_repT {E : RE α} (l : List α) (k : Int) : ∀ x y, eT E l x → eI k y → Rf (dRepT x y) (repT l k) (eT E) := by
  rintro _ _ ⟨ds, rfl, r⟩ rfl
  unfold repT
  dsimp only [dRepT]
  by_cases h1 : k = 1
  · rw [if_pos h1, if_pos h1]; exact ⟨_, rfl, ds, rfl, r⟩
  · rw [if_neg h1, if_neg h1]
    by_cases h : 2 ≤ k ∧ k ≤ 1000 ∧ l ≠ [] ∧ l.length ≤ 1000
    · rw [if_pos h, if_pos ⟨h.1, h.2.1, fun z => h.2.2.1 (List.eq_nil_of_length_eq_zero (by rw [← r.length, z]; rfl)), by rw [r.length]; exact h.2.2.2⟩]
      exact ⟨_, rfl, _, rfl, rep_A2 r _⟩
    · rw [if_neg h]; trivial
theorem o_repR (l : List Int) (k : Int) : ∀ x y, eR l x → eI k y → Rf (dRepT x y) (repT l k) eR := fun x y hx hy => by
  have := o_repT (E := eI) l k x y (r_t l x hx) hy
  cases h : repT l k with
  | ok v => rw [h] at this; obtain ⟨z, e, q⟩ := this; exact ⟨z, e, t_r _ _ q⟩
  | exc c n => unfold repT at h; split at h <;> (try split at h) <;> cases h
  | bad => trivial
theorem repT_one {a : α} {k : Int} (h0 : 1 ≤ k) (h : k ≤ 1000) : repT [a] k = .ok (List.replicate k.toNat a) := by
  unfold repT
  by_cases h1 : k = 1
  · rw [if_pos h1, h1]; rfl
  · rw [if_neg h1, if_pos ⟨by omega, by omega, by simp, by simp⟩]
    congr 1
    generalize k.toNat = n
    induction n with
    | zero => rfl
    | succ n ih => rw [List.replicate_succ, List.flatten_cons, ih]; rfl
end
end DL

/-! readings: a list handed on and given back -/
namespace DL
open PySem PySem.Spec PyProof.Rows L2
section
variable {α β R S T : Type} {ρ : KEnv} {c : DL.Env → Out}
def PTO {R : Type} (E : RE R) : R → Out → Prop := fun v o => ∃ d, E v d ∧ o = .ro d
theorem j_retO {i : Nat} {E : RE R} {v : R} (h : ρ[i]? = some (some (ow E v))) : J ρ (sSeq (sRetO i) c) (.ok v) (PTO E) := fun e l => by
  obtain ⟨d, o, h1, h2, h3⟩ := l.get h
  subst h3
  refine ⟨d, h2, ?_⟩
  rw [sSeq_app]
  unfold sRetO
  rw [h1]
theorem r_defO {n m k : Nat} {fb : DL.Env → Out} {d0 : D} {ds : List D} {y : α} {x : Res R} {E0 : RE α} {E : RE R} (h0 : E0 y d0) (h : LeA ds ρ) (hk : m - n = k) (j : J (some (ow E0 y) :: (ρ ++ List.replicate k none)) fb x (PTO E)) : Rf (runDefO n m fb (d0 :: ds)) x E := by
  subst hk
  have := j _ ⟨some (d0, true), _, rfl, fun P hP => ⟨d0, true, rfl, by cases hP; exact ⟨h0, rfl⟩⟩, h.le⟩
  unfold runDefO env1
  cases x with
  | ok v => obtain ⟨d, h1, h2⟩ := this; rw [h2]; exact ⟨d, rfl, h1⟩
  | exc c fs => obtain ⟨e', h2⟩ := this; rw [h2]; rfl
  | bad => trivial
/-- x = f(x, ..) -/
theorem d_callO {al : List Nat} {i : Nat} {F : List D → Res D} {fs : DL.Env → Res (List D)} {Q : β → List D → Prop} {t : α × β → Res R} {E0 : RE α} {E : RE R} {y : α} {r : Res β} (hi : ρ[i]? = some (some (ow E0 y))) (hal : i ∉ al) (cc : CallR F (qC E0 Q) t E) (h : EvR ρ fs r Q) :
    J ρ (sCallO al i F fs) (r.bind fun b => t (y, b)) (PN fun z => (fzK al ρ).set i (some (ow E z))) := fun e l => by
  obtain ⟨d, o, h1, h2, h3⟩ := l.get hi
  subst h3
  have q := h e l
  unfold sCallO sE
  rw [h1]
  dsimp only
  cases r with
  | ok b =>
    obtain ⟨ds, e1, e2⟩ := q
    rw [e1]
    dsimp only [Res.bind]
    have w := cc (y, b) (d :: ds) ⟨d, ds, rfl, h2, e2⟩
    show JM (t (y, b)) _ _
    cases ht : t (y, b) with
    | ok z => rw [ht] at w; obtain ⟨d', w1, w2⟩ := w; rw [w1]; exact ⟨_, rfl, (l.fz al).set i ⟨w2, rfl⟩⟩
    | exc c fs => rw [ht] at w; rw [show F (d :: ds) = _ from w]; exact ⟨_, rfl⟩
    | bad => trivial
  | exc ce xs => rw [show fs e = _ from q]; exact ⟨_, rfl⟩
  | bad => trivial
theorem d_callOP {al : List Nat} {i : Nat} {F : List D → Res D} {fs : DL.Env → Res (List D)} {Q : β → List D → Prop} {t : α × β → Res R} {E0 : RE α} {E : RE R} {y : α} {b : β} (hi : ρ[i]? = some (some (ow E0 y))) (hal : i ∉ al) (cc : CallR F (qC E0 Q) t E) (h : EvR ρ fs (.ok b) Q) :
    J ρ (sCallO al i F fs) (t (y, b)) (PN fun z => (fzK al ρ).set i (some (ow E z))) := d_callO hi hal cc h
end
end DL
namespace DL
open PySem PySem.Spec PyProof.Rows L2
section
open Classical in
/-- where a text stands in a list of texts -/
noncomputable def idxS (l : List Str) (k : Str) : Res Int := if ∀ z ∈ k :: l, PyData.strOk z = true then (match l.findIdx? fun z => decide (z = k) with | some j => .ok ((j : Nat) : Int) | none => .bad) else .bad
theorem beq_strs (a b : Str) : D.beq (.str a) (.str b) = decide (a = b) := by
  unfold D.beq
  simp only [D.py, PyData.eqv]
  exact Bool.eq_iff_iff.mpr (by simp)
theorem pls_strs (n : Nat) : ∀ l : List Str, (∀ z ∈ l, PyData.strOk z = true) → D.pls (l.map D.str) n = true
  | [], _ => rfl
  | a :: l, h => by
    show (D.pl (.str a) n && D.pls (l.map D.str) n) = true
    rw [pls_strs n l (fun z hz => h z (List.mem_cons_of_mem _ hz)), Bool.and_true]
    exact h a List.mem_cons_self
theorem find_strs (k : Str) : ∀ l : List Str, (l.map D.str).findIdx? (fun z => D.beq z (.str k)) = l.findIdx? fun z => decide (z = k)
  | [] => rfl
  | a :: l => by
    rw [List.map_cons, List.findIdx?_cons, List.findIdx?_cons, beq_strs, find_strs k l]
theorem o_idxS (l : List Str) (k : Str) : ∀ x y, eL eS l x → eS k y → Rf (dIndex x [y]) (idxS l k) eI := by
  rintro _ _ ⟨ds, rfl, r⟩ rfl
  rw [A2.fn.mp r]
  unfold idxS
  by_cases h : ∀ z ∈ k :: l, PyData.strOk z = true
  · rw [if_pos h]
    dsimp only [dIndex]
    rw [if_pos ⟨h k List.mem_cons_self, pls_strs 50 l fun z hz => h z (List.mem_cons_of_mem _ hz)⟩, find_strs]
    cases l.findIdx? fun z => decide (z = k) with
    | none => trivial
    | some j => exact ⟨_, rfl, rfl⟩
  · rw [if_neg h]; trivial
end
end DL

/-! readings: values of dicts -/
namespace DL
open PySem PySem.Spec PyProof.Rows L2
section
theorem ints_vals {α : Type} {f : α → D} : ∀ {m : List (α × Int)} {kvs : List (D × D)}, A2 (fun (p : α × Int) (q : D × D) => q.1 = f p.1 ∧ eI p.2 q.2) m kvs → D.ints (kvs.map (·.2)) = some (m.map (·.2))
  | [], _, h => by rw [show _ = [] from h]; rfl
  | p :: m, _, ⟨q, r, rfl, ⟨_, h1⟩, h2⟩ => by
    have := ints_vals h2
    rw [List.map_cons, List.map_cons, show q.2 = .int p.2 from h1]
    simp only [D.ints, this]
    rfl
theorem o_maxVals {α : Type} {f : α → D} (c : Int) (m : List (α × Int)) : ∀ x, eM false f eI m x → Rf (dMaxVals c x) (.ok (maxDef c (m.map (·.2)))) eI := by
  rintro _ ⟨kvs, rfl, h⟩
  exact ⟨_, by dsimp only [dMaxVals]; rw [ints_vals h], rfl⟩
end
end DL

/-! readings: lists of ranges, sorted texts, a tuple's index -/
namespace DL
open PySem PySem.Spec PyProof.Rows L2
section
variable {α β : Type} {ρ : KEnv} {f g : DL.Env → Res D}
/-- list(range(m, n)) -/
def lrng (m n : Int) : Res (List Int) := if RgOkB m n = true then .ok (rangeI m n) else .bad
theorem o_lrng (m n : Int) : ∀ x y, eI m x → eI n y → Rf (dRangeL x y) (lrng m n) (eL eI) := by
  rintro _ _ rfl rfl
  unfold lrng
  dsimp only [dRangeL]
  by_cases h : RgOkB m n = true
  · rw [if_pos h, if_pos h]; exact ⟨_, rfl, _, rfl, rangeI_A2 m n⟩
  · rw [if_neg h, if_neg h]; trivial
theorem v_lrng2 {r s : Res Int} (h : EvR ρ f r eI) (k : EvR ρ g s eI) : EvR ρ (eOp dRangeL f g) (r.bind fun m => s.bind fun n => lrng m n) (eL eI) := v_op o_lrng h k
theorem v_lrng2p {m n : Int} (h : EvR ρ f (.ok m) eI) (k : EvR ρ g (.ok n) eI) : EvR ρ (eOp dRangeL f g) (lrng m n) (eL eI) := v_opp (o_lrng m n) h k
theorem v_lrng1 {r : Res Int} (h : EvR ρ f r eI) : EvR ρ (eRange1 f) (r.bind fun n => lrng 0 n) (eL eI) := fun e l => by
  unfold eRange1
  exact (h e l).bind fun n d hd => o_lrng 0 n _ _ rfl hd
theorem v_lrng1p {n : Int} (h : EvR ρ f (.ok n) eI) : EvR ρ (eRange1 f) (lrng 0 n) (eL eI) := v_lrng1 h
theorem lrng_ok {m n : Int} (h : -1000000000 ≤ m) (k : m ≤ 1000000000) (h' : -1000000000 ≤ n) (k' : n ≤ 1000000000) (hn : (n - m).toNat ≤ 1000000) : lrng m n = .ok (rangeI m n) := if_pos (decide_eq_true ⟨h, k, h', k', hn⟩)
end
end DL

/-! readings: dicts that are walked -/
namespace DL
open PySem PySem.Spec PyProof.Rows L2
section
variable {α β : Type} {ρ : KEnv} {g : DL.Env → Res D} {b : Bool} {f : α → D} {Ek : RE α} {E : RE β} {r : Res (List (α × β))}
theorem a2_items (hf : ∀ a, Ek a (f a)) : ∀ {m : List (α × β)} {kvs : List (D × D)}, A2 (fun (p : α × β) (q : D × D) => q.1 = f p.1 ∧ E p.2 q.2) m kvs → A2 (eQ (qC Ek (q1 E))) m (kvs.map fun p => D.tup [p.1, p.2])
  | [], _, h => by rw [show _ = [] from h]; rfl
  | p :: m, _, ⟨q, r, rfl, ⟨h1, h2⟩, h3⟩ => ⟨_, _, rfl, ⟨_, rfl, q.1, _, rfl, by rw [h1]; exact hf _, q.2, rfl, h2⟩, a2_items hf h3⟩
theorem a2_keys (hf : ∀ a, Ek a (f a)) : ∀ {m : List (α × β)} {kvs : List (D × D)}, A2 (fun (p : α × β) (q : D × D) => q.1 = f p.1 ∧ E p.2 q.2) m kvs → A2 Ek (m.map (·.1)) (kvs.map (·.1))
  | [], _, h => by rw [show _ = [] from h]; rfl
  | p :: m, _, ⟨q, r, rfl, ⟨h1, h2⟩, h3⟩ => ⟨_, _, rfl, by show Ek p.1 q.1; rw [h1]; exact hf _, a2_keys hf h3⟩
theorem a2_vals : ∀ {m : List (α × β)} {kvs : List (D × D)}, A2 (fun (p : α × β) (q : D × D) => q.1 = f p.1 ∧ E p.2 q.2) m kvs → A2 E (m.map (·.2)) (kvs.map (·.2))
  | [], _, h => by rw [show _ = [] from h]; rfl
  | p :: m, _, ⟨q, r, rfl, ⟨h1, h2⟩, h3⟩ => ⟨_, _, rfl, h2, a2_vals h3⟩
theorem v_itemsM (hf : ∀ a, Ek a (f a)) (h : EvR ρ g r (eM b f E)) : EvR ρ (iItemsD g) r (A2 (eQ (qC Ek (q1 E)))) := fun e l => by
  have := h e l
  unfold iItemsD
  cases r with
  | ok m => obtain ⟨d, e1, kvs, rfl, h1⟩ := this; rw [e1]; exact ⟨_, rfl, a2_items hf h1⟩
  | exc c fs => rw [show g e = _ from this]; rfl
  | bad => trivial
theorem v_keysM (hf : ∀ a, Ek a (f a)) (h : EvR ρ g r (eM b f E)) : EvR ρ (iKeysD g) (r.bind fun m => .ok (m.map (·.1))) (A2 Ek) := fun e l => by
  have := h e l
  unfold iKeysD
  cases r with
  | ok m => obtain ⟨d, e1, kvs, rfl, h1⟩ := this; rw [e1]; exact ⟨_, rfl, a2_keys hf h1⟩
  | exc c fs => rw [show g e = _ from this]; rfl
  | bad => trivial
theorem v_keysMp {m : List (α × β)} (hf : ∀ a, Ek a (f a)) (h : EvR ρ g (.ok m) (eM b f E)) : EvR ρ (iKeysD g) (.ok (m.map (·.1))) (A2 Ek) := v_keysM hf h
theorem v_valsM (h : EvR ρ g r (eM b f E)) : EvR ρ (iValsD g) (r.bind fun m => .ok (m.map (·.2))) (A2 E) := fun e l => by
  have := h e l
  unfold iValsD
  cases r with
  | ok m => obtain ⟨d, e1, kvs, rfl, h1⟩ := this; rw [e1]; exact ⟨_, rfl, a2_vals h1⟩
  | exc c fs => rw [show g e = _ from this]; rfl
  | bad => trivial
theorem v_valsMp {m : List (α × β)} (h : EvR ρ g (.ok m) (eM b f E)) : EvR ρ (iValsD g) (.ok (m.map (·.2))) (A2 E) := v_valsM h
end
end DL

/-! shares that may be a module's constants -/
namespace DL
open PySem PySem.Spec PyProof.Rows L2
theorem eH_0 {x : Rat} {d : D} (h : eH x d) : dIx d (.int 0) = .ok (.int x.num) := by rcases h with rfl | rfl <;> rfl
theorem eH_1 {x : Rat} {d : D} (h : eH x d) : dIx d (.int 1) = .ok (.int x.den) := by rcases h with rfl | rfl <;> rfl
theorem powLoop_d : ∀ (k : Nat) (d : D) (s t u v : Int) (m n : Nat), dIx d (.int 0) = .ok (.int u) → dIx d (.int 1) = .ok (.int v) → Sm m s → Sm m t → Sm n u → Sm n v → m + 2 * (n * k) ≤ big →
    ∃ x' k', powLoop [some (d, false), some (.int (k : Int), false), some (pr s t, false)] = .nx [x', k', some (pr (s * u ^ k) (t * v ^ k), false)] := by
  intro k
  induction k using Nat.strongRecOn with
  | ind k ih =>
    intro d s t u v m n d0 d1 hs ht hu hv hb
    unfold powLoop
    rw [while_eq]
    by_cases hk : k = 0
    · subst hk
      simp [pr]
    · have hk3 : 0 < k := by omega
      have key : ∃ h, h = k / 2 := ⟨_, rfl⟩
      obtain ⟨h, hh⟩ := key
      obtain ⟨o, ho⟩ : ∃ o, o = k % 2 := ⟨_, rfl⟩
      have hk2 : ((k : Int) / 2) = (h : Int) := by omega
      have hmod : (k : Int) % 2 = (o : Int) := by omega
      have e1 : n ≤ n * k := Nat.le_mul_of_pos_right _ hk3
      have e2 : n * k = 2 * (n * h) + n * o := by
        have : k = 2 * h + o := by omega
        conv => lhs; rw [this, Nat.mul_add]
        rw [Nat.mul_left_comm]
      have e3 : 2 * n * h = 2 * (n * h) := Nat.mul_assoc _ _ _
      have ms : dMul (.int s) (.int u) = .ok (.int (s * u)) := dMul_int hs hu (by omega)
      have mt : dMul (.int t) (.int v) = .ok (.int (t * v)) := dMul_int ht hv (by omega)
      have mu : dMul (.int u) (.int u) = .ok (.int (u * u)) := dMul_int hu hu (by omega)
      have mv : dMul (.int v) (.int v) = .ok (.int (v * v)) := dMul_int hv hv (by omega)
      have pw : ∀ z : Int, (z * z) ^ h = z ^ (2 * h) := fun z => by rw [Int.pow_mul, show z ^ 2 = z * z from by rw [Int.pow_succ, Int.pow_succ, Int.pow_zero, Int.one_mul]]
      have hlt : h < k := by omega
      have ho2 : o = 1 ∨ o = 0 := by omega
      rcases ho2 with ho1 | ho1
      · subst ho1
        have pz : ∀ x z : Int, x * z * z ^ (2 * h) = x * z ^ k := fun x z => by
          have : k = 2 * h + 1 := by omega
          conv => rhs; rw [this, Int.pow_succ]
          rw [Int.mul_assoc, Int.mul_comm z]
        by_cases h0 : h = 0
        · have k1 : k = 1 := by omega
          subst k1
          subst h0
          have hk4 : ((1 : Nat) : Int).fmod 2 = 1 := by decide
          simp [ms, mt, pr, d0, d1]
          rw [while_eq]
          simp [Int.pow_succ]
        · have hz : 0 < h := by omega
          rw [Nat.mul_one] at e2
          obtain ⟨x', k', q⟩ := ih h hlt (pr (u * u) (v * v)) (s * u) (t * v) (u * u) (v * v) (m + n) (2 * n) (pr_0 _ _) (pr_1 _ _) (hs.mul hu) (ht.mul hv) ((hu.mul hu).mono (by omega)) ((hv.mul hv).mono (by omega)) (by omega)
          rw [pw, pw, pz, pz] at q
          unfold powLoop at q
          refine ⟨x', k', ?_⟩
          rw [← q]
          clear q ih pw pz
          simp [hk3, hmod, ms, mt, mu, mv, hk2, hz, pr, d0, d1]
      · subst ho1
        have pz : ∀ z : Int, z ^ (2 * h) = z ^ k := fun z => by
          congr 1; omega
        have hz : 0 < h := by omega
        obtain ⟨x', k', q⟩ := ih h hlt (pr (u * u) (v * v)) s t (u * u) (v * v) m (2 * n) (pr_0 _ _) (pr_1 _ _) hs ht ((hu.mul hu).mono (by omega)) ((hv.mul hv).mono (by omega)) (by omega)
        rw [pw, pw, pz, pz] at q
        unfold powLoop at q
        refine ⟨x', k', ?_⟩
        rw [← q]
        clear q ih pw pz
        simp [hk3, hmod, ms, mt, mu, mv, hk2, hz, pr, d0, d1]
theorem pow_d {d : D} (u v : Int) (k n : Nat) (d0 : dIx d (.int 0) = .ok (.int u)) (d1 : dIx d (.int 1) = .ok (.int v)) (hu : Sm n u) (hv : Sm n v) (h : 1 + 2 * (n * k) ≤ big) : runDef 2 3 powBody [d, .int (k : Int)] = .ok (pr (u ^ k) (v ^ k)) := by
  refine runDef_rt ?_
  obtain ⟨x', k', q⟩ := powLoop_d k d 1 1 u v 1 n d0 d1 (by show 1 < 2 ^ 1; decide) (by show 1 < 2 ^ 1; decide) hu hv h
  rw [Int.one_mul, Int.one_mul] at q
  unfold powBody
  unfold pr at *
  simp [env0, q]
end DL

/-! readings: texts in order, and more -/
namespace DL
open PySem PySem.Spec PyProof.Rows L2
section
open Classical in
noncomputable def sortSR (l : List Str) : Res (List Str) := if l.length ≤ 4000 ∧ ∀ x ∈ l, PyData.strOk x = true then .ok (sortS l) else .bad
theorem sort_S (l : List Str) {x : D} (h : x.items = some (l.map D.str)) : Rf (dSorted x) (sortSR l) (eL eS) := by
  unfold sortSR
  by_cases k : l.length ≤ 4000 ∧ ∀ x ∈ l, PyData.strOk x = true
  · rw [if_pos k]
    have e : l.map D.str = (l.map (Sum.inr : Str → Key)).map keyD := by rw [List.map_map]; rfl
    have ok : SortOk ((l.map (Sum.inr : Str → Key)).map keyD) := sortOk_keys (by rw [List.length_map, PySem.sizeLine_eq]; omega) (.inr fun z hz => by obtain ⟨i, hi, rfl⟩ := List.mem_map.mp hz; exact ⟨i, rfl, k.2 i hi⟩)
    refine ⟨.lst ((sortS l).map D.str), ?_, _, rfl, A2.fn.mpr rfl⟩
    unfold dSorted
    rw [h]
    dsimp only
    rw [e, if_pos ok, sortD_keys, sortKy_S, List.map_map]
    rfl
  · rw [if_neg k]; trivial
theorem o_sortLS (l : List Str) : ∀ x, eL eS l x → Rf (dSorted x) (sortSR l) (eL eS) := by rintro _ ⟨ds, rfl, r⟩; exact sort_S l (by rw [A2.fn.mp r]; rfl)
theorem o_sortMS {β : Type} {E : RE β} (m : List (Str × β)) : ∀ x, eM false D.str E m x → Rf (dSorted x) (sortSR (m.map (·.1))) (eL eS) := by
  rintro _ ⟨kvs, rfl, r⟩
  refine sort_S _ ?_
  have : ∀ {m : List (Str × β)} {kvs : List (D × D)}, A2 (fun (p : Str × β) (q : D × D) => q.1 = D.str p.1 ∧ E p.2 q.2) m kvs → kvs.map (·.1) = (m.map (·.1)).map D.str := by
    intro m
    induction m with
    | nil => intro kvs h; rw [show _ = [] from h]; rfl
    | cons p m ih => rintro _ ⟨q, r, rfl, ⟨h1, _⟩, h2⟩; rw [List.map_cons, List.map_cons, List.map_cons, ih h2]; rw [show q.1 = _ from h1]
  show some (kvs.map (·.1)) = _
  rw [this r]
theorem v_dispP {α : Type} {ρ : KEnv} {l : List (Key × (DL.Env → Res D))} {ks : List Str} {vs : List α} {E : RE α} (hk : l.map (·.1) = ks.map Sum.inr) (h : EvR ρ (eVals l) (.ok vs) (A2 E)) : EvR ρ (eDisp l) (.ok (ks.zip vs)) (eM false D.str E) := v_disp hk h
theorem sortSR_ok {l : List Str} (h : l.length ≤ 4000) (k : ∀ x ∈ l, PyData.strOk x = true) : sortSR l = .ok (sortS l) := if_pos ⟨h, k⟩
end
end DL
namespace DL
/-- a loop that may give back before its end -/
theorem Ok.forX {α S R : Type} {f : α → S → Res (Oc S R)} {l : List α} {s : S} (I : List α → S → Prop) (Q : R → Prop) (h0 : I [] s) (h : ∀ d a r s, l = d ++ a :: r → I d s → Ok (f a s) fun o => match o with | .nx s' => I (d ++ [a]) s' | .rt v => Q v | .bk _ => False) :
    Ok (forX l s f) fun o => match o with | .nx s' => I l s' | .rt v => Q v | .bk _ => False := by
  have gen : ∀ (r d : List α) (s : S), l = d ++ r → I d s → Ok (DL.forX r s f) fun o => match o with | .nx s' => I l s' | .rt v => Q v | .bk _ => False := by
    intro r
    induction r with
    | nil => intro d s e hI; rw [e, List.append_nil]; exact ⟨_, rfl, hI⟩
    | cons a r ih =>
      intro d s e hI
      unfold DL.forX
      obtain ⟨o, eo, ho⟩ := h d a r s e hI
      rw [eo, Res.bind_ok]
      cases o with
      | nx s' => exact ih (d ++ [a]) s' (by rw [e, List.append_assoc]; rfl) ho
      | rt v => exact ⟨_, rfl, ho⟩
      | bk s' => exact ho.elim
  exact gen l [] s rfl h0
theorem Ok.thenXR {S R T : Type} {r : Res (Oc S R)} {m : R → T} {k : S → Res T} {P : S → Prop} {V : R → Prop} {Q : T → Prop} (h : Ok r fun o => match o with | .nx s => P s | .rt v => V v | .bk _ => False) (q : ∀ s, P s → Ok (k s) Q) (v : ∀ v, V v → Q (m v)) : Ok (DL.thenX r m k) Q := by
  obtain ⟨o, e, ho⟩ := h
  rw [e]
  cases o with
  | nx s => exact q s ho
  | rt x => exact ⟨_, rfl, v x ho⟩
  | bk s => exact ho.elim
end DL

/-! readings: insert, try, what is a list or a tuple -/
namespace DL
open PySem PySem.Spec PyProof.Rows L2
section
variable {α β T S R : Type} {ρ ρ' ρx : KEnv} {a b c : DL.Env → Out}
open Classical in
noncomputable def insR {α : Type} (l : List α) (i : Int) (a : α) : Res (List α) := if 0 ≤ i ∧ i < 1000000 ∧ l.length < sizeLine then .ok (l.take i.toNat ++ [a] ++ l.drop i.toNat) else .bad
theorem insR_nx (l : List α) (i : Int) (a : α) (c : String) (fs : List D) : insR l i a ≠ .exc c fs := by unfold insR; split <;> simp
theorem insR_ok {l : List α} {i : Int} {a : α} (h0 : 0 ≤ i) (h1 : i < 1000000) (h2 : l.length < 4000) : insR l i a = .ok (l.take i.toNat ++ [a] ++ l.drop i.toNat) := if_pos ⟨h0, h1, by rw [PySem.sizeLine_eq]; omega⟩
theorem vq_2 {E : RE α} {E' : RE β} {f g : DL.Env → Res D} {r : Res α} {r' : Res β} (h : EvR ρ f r E) (k : EvR ρ g r' E') : EvR ρ (aCons f (aCons g aNil)) (r.bind fun x => r'.bind fun y => .ok (x, y)) (qC E (q1 E')) := vq_c h (vq_1 k)
theorem d_ins {al : List Nat} {i : Nat} {fi f : DL.Env → Res D} {E : RE α} {l : List α} {ri : Res Int} {r : Res α} (hf : (fzK al ρ)[i]? = some (some (ow (eL E) l))) (hi : EvR ρ fi ri eI) (h : EvR ρ f r E) :
    J ρ (sMut al i gInsert (aCons fi (aCons f aNil))) ((ri.bind fun x => r.bind fun y => .ok (x, y)).bind fun p => insR l p.1 p.2) (PN fun l' => (fzK al ρ).set i (some (ow (eL E) l'))) :=
  sMut_J hf (vq_2 hi h) (fun ds b es l' h1 h2 h3 => by
    obtain ⟨d, _, rfl, hd, d', rfl, hd'⟩ := h2
    unfold insR at h3
    split at h3
    · rename_i hl
      cases h3
      rw [show d = .int b.1 from hd]
      refine ⟨ds.take b.1.toNat ++ [d'] ++ ds.drop b.1.toNat, ?_, (A2.append (A2.take _ h1) (A2.cons hd' A2.nil)).append (A2.drop _ h1)⟩
      unfold gInsert
      dsimp only
      rw [if_pos (by rw [h1.length]; exact hl)]
    · cases h3) (fun b => insR_nx l _ _)
/-! ### try -/
/-- a block that may raise; what is known then -/
def JT {T : Type} (ρ ρx : KEnv) (b : DL.Env → Out) (r : Res T) (P : T → Out → Prop) : Prop := ∀ e, Le ρ e → match r with
  | .ok t => P t (b e)
  | .exc c fs => ∃ e', b e = .ex c fs e' ∧ Le ρx e'
  | .bad => True
theorem t_set {al : List Nat} {i : Nat} {f : DL.Env → Res D} {E : RE α} {x : Res α} (s : Sb ρx (fzK al ρ)) (h : EvR ρ f x E) : JT ρ ρx (sSet al i f) x (PN fun v => (fzK al ρ).set i (some (sh E v))) := fun e l => by
  have := h e l
  cases x with
  | ok v => obtain ⟨d, h1, h2⟩ := this; exact ⟨_, by rw [sSet_app, h1], (l.fz al).set i ⟨h2, rfl⟩⟩
  | exc cc fs => exact ⟨_, by rw [sSet_app, show f e = _ from this], (l.fz al).less s⟩
  | bad => trivial
theorem t_drop {al : List Nat} {f : DL.Env → Res D} {E : RE α} {x : Res α} (s : Sb ρx (fzK al ρ)) (h : EvR ρ f x E) : JT ρ ρx (sDrop al f) x (PN fun _ => fzK al ρ) := fun e l => by
  have := h e l
  cases x with
  | ok v => obtain ⟨d, h1, h2⟩ := this; exact ⟨_, by rw [sDrop_app, h1], l.fz al⟩
  | exc cc fs => exact ⟨_, by rw [sDrop_app, show f e = _ from this], (l.fz al).less s⟩
  | bad => trivial
theorem t_end {ρs : S → KEnv} {s : S} (h : Sb (ρs s) ρ) : JT ρ ρx sSkip (.ok s) (PN ρs) := fun e l => ⟨e, rfl, l.less h⟩
theorem t_do {s : Res S} {ρs : S → KEnv} {k : S → Res T} {P : T → Out → Prop} (h : JT ρ ρx a s (PN ρs)) (q : ∀ x, JT (ρs x) ρx b (k x) P) : JT ρ ρx (sSeq a b) (s.bind k) P := fun e l => by
  have := h e l
  cases s with
  | ok x =>
    obtain ⟨e', h1, h2⟩ := this
    have : sSeq a b e = b e' := by unfold sSeq; rw [h1]
    rw [this]
    exact q x e' h2
  | exc cc fs => obtain ⟨e', h1, h2⟩ := this; exact ⟨e', by unfold sSeq; rw [h1], h2⟩
  | bad => trivial
theorem t_skip {r : Res T} {P : T → Out → Prop} (h : JT ρ ρx b r P) : JT ρ ρx (sSeq sSkip b) r P := fun e l => h e l
theorem t_assoc {r : Res T} {P : T → Out → Prop} (h : JT ρ ρx (sSeq a (sSeq b c)) r P) : JT ρ ρx (sSeq (sSeq a b) c) r P := fun e l => by
  have : sSeq (sSeq a b) c e = sSeq a (sSeq b c) e := by unfold sSeq; cases a e <;> rfl
  rw [this]
  exact h e l
theorem t_if {ft : DL.Env → Res Bool} {rt : Res Bool} {ra rb : Res T} {P : T → Out → Prop} (s : Sb ρx ρ) (hc : EvR ρ ft rt Tr) (ha : JT ρ ρx a ra P) (hb : JT ρ ρx b rb P) : JT ρ ρx (sIf [] ft a b) (rt.bind fun z => if z = true then ra else rb) P := fun e l => by
  have := hc e l
  cases rt with
  | ok z =>
    obtain ⟨y, h1, h2⟩ := this
    have q : sIf [] ft a b e = if y = true then a (fz [] e) else b (fz [] e) := by rw [sIf_app, h1]
    rw [q, show y = z from h2, fz_nil]
    cases z
    · exact hb _ l
    · exact ha _ l
  | exc cc fs => exact ⟨e, by rw [sIf_app, show ft e = _ from this, fz_nil], l.less s⟩
  | bad => trivial
theorem t_ifP {ft : DL.Env → Res Bool} {p : Prop} [Decidable p] {ra rb : Res T} {P : T → Out → Prop} (s : Sb ρx ρ) (hc : EvR ρ ft (.ok (decide p)) Tr) (ha : JT ρ ρx a ra P) (hb : JT ρ ρx b rb P) : JT ρ ρx (sIf [] ft a b) (if p then ra else rb) P := by
  have := t_if s hc ha hb
  by_cases h : p
  · rw [if_pos h]; simpa [h] using this
  · rw [if_neg h]; simpa [h] using this
theorem t_ifs {ft : DL.Env → Res Bool} {rt : Res Bool} {ra rb : Res T} {P : T → Out → Prop} (s : Sb ρx ρ) (hc : EvR ρ ft rt Tr) (ha : JT ρ ρx (sSeq a c) ra P) (hb : JT ρ ρx (sSeq b c) rb P) : JT ρ ρx (sSeq (sIf [] ft a b) c) (rt.bind fun z => if z = true then ra else rb) P := by
  rw [seq_if]; exact t_if s hc ha hb
theorem t_ifsP {ft : DL.Env → Res Bool} {p : Prop} [Decidable p] {ra rb : Res T} {P : T → Out → Prop} (s : Sb ρx ρ) (hc : EvR ρ ft (.ok (decide p)) Tr) (ha : JT ρ ρx (sSeq a c) ra P) (hb : JT ρ ρx (sSeq b c) rb P) : JT ρ ρx (sSeq (sIf [] ft a b) c) (if p then ra else rb) P := by
  rw [seq_if]; exact t_ifP s hc ha hb
/-- the errors that a handler takes -/
def hitR {T : Type} (h : String → Option Bool) (r : Res T) (k : String → Res T) : Res T := match r with
  | .exc c fs => match h c with
    | some true => match fs with
      | [] => (k c).noX
      | _ => .bad
    | some false => .exc c fs
    | none => .bad
  | r => r
theorem hitR_ok (h : String → Option Bool) (t : T) (k : String → Res T) : hitR h (.ok t) k = .ok t := rfl
theorem hitR_exc {h : String → Option Bool} {c : String} (e : h c = some true) (k : String → Res T) : hitR h (.exc c []) k = (k c).noX := by unfold hitR; dsimp only; rw [e]
theorem j_try {h : String → Option Bool} {r : Res S} {k : String → Res S} {ρs : S → KEnv} (hb : JT ρ ρx a r (PN ρs)) (hs : ∀ c, J ρx b (k c) (PN ρs)) : J ρ (sTry h a b) (hitR h r k) (PN ρs) := fun e l => by
  have := hb e l
  cases r with
  | ok t => obtain ⟨e', h1, h2⟩ := this; exact ⟨e', by unfold sTry; rw [h1], h2⟩
  | bad => trivial
  | exc cn fs =>
    obtain ⟨e', h1, h2⟩ := this
    unfold hitR
    dsimp only
    cases hc : h cn with
    | none => trivial
    | some z =>
      cases z with
      | false => exact ⟨e', by unfold sTry; rw [h1]; dsimp only; rw [hc]⟩
      | true =>
        cases fs with
        | cons _ _ => trivial
        | nil =>
          have := hs cn e' h2
          dsimp only
          cases hk : k cn with
          | ok t =>
            rw [hk] at this
            obtain ⟨e2, h3, h4⟩ := this
            exact ⟨e2, by unfold sTry; rw [h1]; dsimp only; rw [hc]; dsimp only; rw [h3]; rfl, h4⟩
          | exc _ _ => trivial
          | bad => trivial
def eErr : RE Addr := fun a d => d = .obj (.ref a)
/-- a handler that names the error: the same whatever its address -/
def UH {T : Type} (i : Nat) (ρ : KEnv) (fs : Addr → DL.Env → Out) (r : Res T) (P : T → KEnv) : Prop := ∀ e, Le ρ e → match r with
  | .ok t => ∃ e', (∀ a, clrN i (fs a (e.set i (some (.obj (.ref a), false)))) = .nx e') ∧ Le (P t) e'
  | _ => True
theorem uh_end {i : Nat} {ρs : S → KEnv} {s : S} (h : Sb (ρs s) (ρ.set i none)) : UH i ρ (fun _ => sSkip) (.ok s) ρs := fun e l => ⟨e.set i none, fun a => by
  show Out.nx ((e.set i _).set i none) = _
  rw [List.set_set], (l.forget i).less h⟩
theorem uh_set {i j : Nat} {f : α → D} {E : RE α} {x : Res α} {g : Addr → DL.Env → Res D} {gs : Addr → DL.Env → Out} {q : α → Res S} {P : S → KEnv} (hij : i ≠ j) (hF : Fun E f) (hv : ∀ a, EvR (ρ.set i (some (sh eErr a))) (g a) x E)
    (k : ∀ v, UH i (ρ.set j (some (sh E v))) gs (q v) P) : UH i ρ (fun a => sSeq (sSet [] j (g a)) (gs a)) (x.bind q) P := fun e l => by
  cases x with
  | exc _ _ => trivial
  | bad => trivial
  | ok v =>
    have := k v (e.set j (some (f v, false))) (l.set j ⟨(hF v _).mpr rfl, rfl⟩)
    show match q v with | .ok t => _ | _ => True
    cases hq : q v with
    | exc _ _ => trivial
    | bad => trivial
    | ok t =>
      rw [hq] at this
      obtain ⟨e', h1, h2⟩ := this
      refine ⟨e', fun a => ?_, h2⟩
      rw [← h1 a]
      obtain ⟨d, h3, h4⟩ := hv a (e.set i (some (.obj (.ref a), false))) (l.set i ⟨rfl, rfl⟩)
      have hd : d = f v := (hF v d).mp h4
      subst hd
      congr 1
      show sSeq (sSet [] j (g a)) (gs a) _ = _
      unfold sSeq
      rw [sSet_app, h3]
      dsimp only
      rw [fz_nil, List.set_comm _ _ hij]
theorem j_tryAs {i : Nat} {h : String → Option Bool} {fs : Addr → String → DL.Env → Out} {r : Res S} {k : String → Res S} {ρs : S → KEnv} (hb : JT ρ ρx a r (PN ρs)) (hs : ∀ c, UH i ρx (fun ad => fs ad c) (k c) ρs) : J ρ (sTryAs i h a fs) (hitR h r k) (PN ρs) := fun e l => by
  have := hb e l
  cases r with
  | ok t => obtain ⟨e', h1, h2⟩ := this; exact ⟨e', by unfold sTryAs; rw [h1], h2⟩
  | bad => trivial
  | exc cn xs =>
    obtain ⟨e', h1, h2⟩ := this
    unfold hitR
    dsimp only
    cases hc : h cn with
    | none => trivial
    | some z =>
      cases z with
      | false => exact ⟨e', by unfold sTryAs; rw [h1]; dsimp only; rw [hc]⟩
      | true =>
        cases xs with
        | cons _ _ => trivial
        | nil =>
          have := hs cn e' h2
          dsimp only
          cases hk : k cn with
          | ok t =>
            rw [hk] at this
            obtain ⟨e2, h3, h4⟩ := this
            refine ⟨e2, ?_, h4⟩
            unfold sTryAs
            rw [h1]
            dsimp only
            rw [hc]
            dsimp only
            rw [if_pos rfl, show (fun ad => clrN i (fs ad cn (e'.set i (some (.obj (.ref ad), false))))) = fun _ => Out.nx e2 from funext h3]
            exact unif_const _
          | exc _ _ => trivial
          | bad => trivial
theorem v_isE {i : Nat} {ad : Addr} {o : Option Bool} (h : ρ[i]? = some (some (sh eErr ad))) : EvR ρ (eIsE i ad o) (optR o) eB := fun e l => by
  obtain ⟨d, z, h1, h2, h3⟩ := l.get h
  rw [show d = _ from h2, h3] at h1
  rw [eIsE_app, h1]
  dsimp only
  rw [if_pos rfl]
  cases o with
  | some b => exact ⟨_, rfl, rfl⟩
  | none => trivial
/-! ### a list or a tuple -/
def eW {α : Type} (E : RE α) : RE (List α) := fun l d => ∃ ds, (d = .lst ds ∨ d = .tup ds) ∧ A2 E l ds
theorem l_w {E : RE α} (l : List α) (d : D) (h : eL E l d) : eW E l d := let ⟨ds, e, r⟩ := h; ⟨ds, .inl e, r⟩
theorem t_w {E : RE α} (l : List α) (d : D) (h : eT E l d) : eW E l d := let ⟨ds, e, r⟩ := h; ⟨ds, .inr e, r⟩
theorem v_seqW {E : RE α} {f : DL.Env → Res D} {r : Res (List α)} (h : EvR ρ f r (eW E)) : EvR ρ (iSeq f) r (A2 E) := fun e l => by
  have := h e l
  cases r with
  | ok x =>
    obtain ⟨d, e1, ds, e2, h1⟩ := this
    rw [iSeq_app, e1]
    rcases e2 with e2 | e2 <;> subst e2 <;> exact ⟨ds, rfl, h1⟩
  | exc c fs => rw [iSeq_app, show f e = _ from this]; rfl
  | bad => trivial
theorem o_lenW {E : RE α} (l : List α) : ∀ x, eW E l x → Rf (dLen x) (.ok (l.length : Int)) eI := by
  rintro _ ⟨ds, e | e, r⟩
  · subst e; exact ⟨_, rfl, by rw [← r.length]; rfl⟩
  · subst e; exact ⟨_, rfl, by rw [← r.length]; rfl⟩
/-! ### less known of what was handed on -/
def Lw : KEnv → KEnv → Prop := A2 fun r x => ∀ P, r = some P → ∃ P', x = some P' ∧ ∀ d o, P' d o → P d o
theorem Lw.nil : Lw [] [] := rfl
theorem Lw.same {r : Option Kn} {a b : KEnv} (s : Lw a b) : Lw (r :: a) (r :: b) := ⟨_, _, rfl, fun P h => ⟨P, h, fun _ _ h => h⟩, s⟩
theorem Lw.fr {E : RE α} {x : α} {a b : KEnv} (s : Lw a b) : Lw (some (sh E x) :: a) (some (frK (ow E x)) :: b) := ⟨_, _, rfl, fun P h => ⟨_, rfl, fun d o ⟨h1, _, h2, _⟩ => by cases h; exact ⟨h2, h1⟩⟩, s⟩
theorem Lw.fs {E : RE α} {x : α} {a b : KEnv} (s : Lw a b) : Lw (some (sh E x) :: a) (some (frK (sh E x)) :: b) := ⟨_, _, rfl, fun P h => ⟨_, rfl, fun d o ⟨h1, _, h2, _⟩ => by cases h; exact ⟨h2, h1⟩⟩, s⟩
theorem Le.weak : ∀ {ρ' ρ : KEnv} {e : DL.Env}, Lw ρ' ρ → Le ρ e → Le ρ' e
  | [], _, _, w, h => by rw [show _ = [] from w] at h; exact h
  | _ :: _, _, _, ⟨_, _, rfl, w1, w2⟩, ⟨y, _, rfl, h1, h2⟩ => ⟨y, _, rfl, fun P hP => by
    obtain ⟨P', q1, q2⟩ := w1 P hP
    obtain ⟨d, o, q3, q4⟩ := h1 P' q1
    exact ⟨d, o, q3, q2 d o q4⟩, Le.weak w2 h2⟩
theorem j_weak {r : Res T} {P : T → Out → Prop} (w : Lw ρ' ρ) (h : J ρ' b r P) : J ρ b r P := fun e l => h e (l.weak w)
end
section
variable {α β : Type}
/-! ### equality where texts stand in tuples -/
structure EqG {α : Type} [DecidableEq α] (E : RE α) (ok : α → Bool) (n : Nat) : Prop where
  pl : ∀ a d, ok a = true → E a d → d.pl n = true
  beq : ∀ a b x y, E a x → E b y → PyData.eqv x.py y.py = decide (a = b)
structure EqGQ {α : Type} [DecidableEq α] (Q : α → List D → Prop) (ok : α → Bool) (n : Nat) : Prop where
  pl : ∀ a d, ok a = true → Q a d → D.pls d n = true
  beq : ∀ a b x y, Q a x → Q b y → PyData.eqvAll (D.pys x) (D.pys y) = decide (a = b)
theorem EqG.of [DecidableEq α] {E : RE α} {n : Nat} (h : EqE E n) : EqG E (fun _ => true) n := ⟨fun a d _ r => h.pl a d r, h.beq⟩
theorem EqG.str (n : Nat) : EqG eS PyData.strOk n := ⟨by rintro a _ h rfl; exact h, by
  rintro a b _ _ rfl rfl
  simp [D.py, PyData.eqv]
  exact Bool.eq_iff_iff.mpr (by simp)⟩
theorem EqGQ.one [DecidableEq α] {E : RE α} {n : Nat} {ok : α → Bool} (h : EqG E ok n) : EqGQ (q1 E) ok n := ⟨by
  rintro a _ k ⟨d, rfl, hd⟩
  simp [D.pls, h.pl a d k hd], by
  rintro a b _ _ ⟨d, rfl, hd⟩ ⟨d', rfl, hd'⟩
  simp only [D.pys, PyData.eqvAll, h.beq a b d d' hd hd', Bool.and_true]⟩
theorem EqGQ.c [DecidableEq α] [DecidableEq β] {E : RE α} {Q : β → List D → Prop} {n : Nat} {ok : α → Bool} {ok' : β → Bool} (h : EqG E ok n) (k : EqGQ Q ok' n) : EqGQ (qC E Q) (fun p => ok p.1 && ok' p.2) n := ⟨by
  rintro ⟨a, b⟩ _ o ⟨d, r, rfl, hd, hr⟩
  simp only [Bool.and_eq_true] at o
  simp [D.pls, h.pl a d o.1 hd, k.pl b r o.2 hr], by
  rintro ⟨a, b⟩ ⟨a', b'⟩ _ _ ⟨d, r, rfl, hd, hr⟩ ⟨d', r', rfl, hd', hr'⟩
  simp only [D.pys, PyData.eqvAll, h.beq _ _ d d' hd hd', k.beq _ _ r r' hr hr']
  by_cases h1 : a = a' <;> by_cases h2 : b = b' <;> simp [h1, h2]⟩
theorem EqG.q [DecidableEq α] {Q : α → List D → Prop} {n : Nat} {ok : α → Bool} (h : EqGQ Q ok n) : EqG (eQ Q) ok (n + 1) := ⟨by
  rintro a _ o ⟨ds, rfl, r⟩
  exact h.pl a ds o r, by
  rintro a b _ _ ⟨ds, rfl, r⟩ ⟨ds', rfl, r'⟩
  rw [D.py, D.py, PyData.eqv]; exact h.beq _ _ _ _ r r'⟩
def eqG {α : Type} [DecidableEq α] (ok : α → Bool) (a b : α) : Res Bool := if ok a = true ∧ ok b = true then .ok (decide (a = b)) else .bad
def neG {α : Type} [DecidableEq α] (ok : α → Bool) (a b : α) : Res Bool := if ok a = true ∧ ok b = true then .ok (decide (a ≠ b)) else .bad
theorem o_eqG [DecidableEq α] {E : RE α} {ok : α → Bool} (h : EqG E ok 60) (a b : α) : ∀ x y, E a x → E b y → Rf (dEq x y) (eqG ok a b) eB := fun x y hx hy => by
  unfold eqG
  by_cases k : ok a = true ∧ ok b = true
  · rw [if_pos k]; exact ⟨_, dEq_of (h.pl a x k.1 hx) (h.pl b y k.2 hy) (h.beq a b x y hx hy), rfl⟩
  · rw [if_neg k]; trivial
theorem o_neG [DecidableEq α] {E : RE α} {ok : α → Bool} (h : EqG E ok 60) (a b : α) : ∀ x y, E a x → E b y → Rf (dNe x y) (neG ok a b) eB := fun x y hx hy => by
  unfold neG
  by_cases k : ok a = true ∧ ok b = true
  · rw [if_pos k]; exact ⟨_, dNe_of (h.pl a x k.1 hx) (h.pl b y k.2 hy) (h.beq a b x y hx hy), by simp [eB]⟩
  · rw [if_neg k]; trivial
theorem eqG_ok [DecidableEq α] {ok : α → Bool} {a b : α} (h : ok a = true) (k : ok b = true) : eqG ok a b = .ok (decide (a = b)) := if_pos ⟨h, k⟩
theorem neG_ok [DecidableEq α] {ok : α → Bool} {a b : α} (h : ok a = true) (k : ok b = true) : neG ok a b = .ok (decide (a ≠ b)) := if_pos ⟨h, k⟩
theorem o_lenQ2 {E : RE α} {E' : RE β} (p : α × β) : ∀ x, eQ (qC E (q1 E')) p x → Rf (dLen x) (.ok (2 : Int)) eI := by rintro _ ⟨_, rfl, _, _, rfl, _, _, rfl, _⟩; exact ⟨_, rfl, rfl⟩
theorem o_lenQ3 {γ : Type} {E : RE α} {E' : RE β} {E2 : RE γ} (p : α × β × γ) : ∀ x, eQ (qC E (qC E' (q1 E2))) p x → Rf (dLen x) (.ok (3 : Int)) eI := by rintro _ ⟨_, rfl, _, _, rfl, _, _, _, rfl, _, _, rfl, _⟩; exact ⟨_, rfl, rfl⟩
theorem o_lenH (p : Rat) : ∀ x, eH p x → Rf (dLen x) (.ok (2 : Int)) eI := by rintro _ (rfl | rfl) <;> exact ⟨_, rfl, rfl⟩
def pickR {α : Type} (l : List α) (lo hi : Option Int) (k : Int) : Res (List α) := if k = 0 then .bad else .ok (pickL l lo hi (some k))
theorem pickR_ok {l : List α} {lo hi : Option Int} {k : Int} (h : k ≠ 0) : pickR l lo hi k = .ok (pickL l lo hi (some k)) := if_neg h
theorem v_cutSR {ρ : KEnv} {f : DL.Env → Res D} {fl fh fk : DL.Env → Res (Option Int)} {lo hi : Option Int} {k : Int} {E : RE α} {l : List α} (h : EvR ρ f (.ok l) (eL E)) (hl : EvR ρ fl (.ok lo) Eqv) (hh : EvR ρ fh (.ok hi) Eqv) (hk : EvR ρ fk (.ok (some k)) Eqv) : EvR ρ (eCutS f fl fh fk) (pickR l lo hi k) (eL E) := by
  unfold pickR
  by_cases h0 : k = 0
  · rw [if_pos h0]; exact fun _ _ => trivial
  · rw [if_neg h0]; exact v_cutS h hl hh hk h0
theorem isTup_Sh (a : Rat) : ∀ x, eH a x → Rf (isTup x) (.ok true) eB := by rintro _ (rfl | rfl) <;> exact ⟨_, rfl, rfl⟩
/-! ### dicts with row keys compared -/
def sameM (m m' : List (List Int × Int)) : Bool := decide (m.length = m'.length) && m.all fun p => decide (getG m' p.1 = some p.2)
theorem a2_ints : ∀ {m : List (List Int × Int)} {kvs : List (D × D)}, A2 (fun (p : List Int × Int) (q : D × D) => q.1 = ans p.1 ∧ eI p.2 q.2) m kvs → kvs.all (fun p => isIntD p.2) = true
  | [], _, h => by rw [show _ = [] from h]; rfl
  | p :: m, _, ⟨q, r, rfl, ⟨_, h2⟩, h3⟩ => by rw [List.all_cons, a2_ints h3, show q.2 = _ from h2]; rfl
open Classical in
theorem hits_A2 {m' : List (List Int × Int)} {lvs : List (D × D)} (k : A2 (fun (p : List Int × Int) (q : D × D) => q.1 = ans p.1 ∧ eI p.2 q.2) m' lvs) : ∀ {m : List (List Int × Int)} {kvs : List (D × D)}, A2 (fun (p : List Int × Int) (q : D × D) => q.1 = ans p.1 ∧ eI p.2 q.2) m kvs → allHitD lvs kvs = m.all fun p => decide (getG m' p.1 = some p.2)
  | [], _, h => by rw [show _ = [] from h]; rfl
  | p :: m, _, ⟨q, r, rfl, ⟨h1, h2⟩, h3⟩ => by
    have ih := hits_A2 k h3
    unfold allHitD at ih ⊢
    rw [List.all_cons, List.all_cons, ih]
    congr 1
    have f := find_A2 KeyF.row p.1 k
    rw [h1, show q.2 = .int p.2 from h2]
    cases hg : getG m' p.1 with
    | none =>
      rw [hg] at f
      rw [show dFind lvs (ans p.1) = none from f]
      simp
    | some v =>
      rw [hg] at f
      obtain ⟨d, h5, h6⟩ := f
      rw [h5, show d = .int v from h6]
      by_cases e : v = p.2
      · subst e; simp
      · have n1 : ¬ some (D.int v) = some (D.int p.2) := fun z => e (by injection z with z; injection z)
        have n2 : ¬ some v = some p.2 := fun z => e (by injection z)
        simp [n1, n2]
theorem o_dT (ne : Bool) (a b : List (List Int × Int)) : ∀ x y, eM true ans eI a x → eM true ans eI b y → Rf (dEqT ne x y) (.ok (ne ^^ sameM a b)) eB := by
  rintro _ _ ⟨kvs, rfl, h⟩ ⟨lvs, rfl, k⟩
  refine ⟨_, if_pos ⟨a2_ints h, a2_ints k⟩, ?_⟩
  rw [hits_A2 k h, h.length, k.length]
  rfl
theorem dGt_ans (a b : List Int) : dGt (ans a) (ans b) = .ok (.bl (lexB b a)) := by
  show cmpD (fun x y => D.lt y x) (ans a) (ans b) = _
  unfold cmpD
  have c : D.cmpb (ans a) (ans b) = true := by
    unfold D.cmpb
    rw [ans_pl a 59, ans_pl b 59, ans_alike]
    rfl
  rw [if_pos c]
  show Res.ok (D.bl (D.lt (ans b) (ans a))) = _
  rw [lt_ans]
theorem o_gtR (a b : List Int) : ∀ x y, eR a x → eR b y → Rf (dGt x y) (.ok (decide (lexB b a = true))) eB := by rintro _ _ rfl rfl; exact ⟨_, dGt_ans a b, by simp [eB]⟩
theorem o_sortWK (l : List (List Int)) : ∀ x, eW eR l x → Rf (dSorted x) (sortKR l) (eL eR) := by
  rintro _ ⟨ds, e | e, r⟩
  · exact o_sortLK l _ ⟨ds, e, r⟩
  · exact o_sortTK l _ ⟨ds, e, r⟩
end
end DL

namespace DLaw
open DL PySem PySem.Spec PyProof.Rows L2
open PySem.Builtin.Int (intBits)
def top (i : Nat) : Stmt := PySem.Challenge.pw_blurdesk_k13_tables_made.main.body.getD i (.Pass ⟨0, 0, 0, 0⟩)
def h_TooMany : String → Option Bool := fun s => if s = "TooMany" then some true else (fun _ => none) s
def i_NoShare : String → Option Bool := fun s => if s = "TooMany" then some false else (fun _ => none) s
def i_NoSpread : String → Option Bool := fun s => if s = "TooMany" then some false else (fun _ => none) s
def i_NoAnswer : String → Option Bool := fun s => if s = "TooMany" then some false else (fun _ => none) s
def i_NoDie : String → Option Bool := fun s => if s = "TooMany" then some false else (fun _ => none) s
def i_PastPurse : String → Option Bool := fun s => if s = "TooMany" then some false else (fun _ => none) s
def i_Unlike : String → Option Bool := fun s => if s = "TooMany" then some false else (fun _ => none) s
def i_BadText : String → Option Bool := fun s => if s = "TooMany" then some false else (fun _ => none) s
def i_BadProgram : String → Option Bool := fun s => if s = "TooMany" then some false else (fun _ => none) s
def i_BlurError : String → Option Bool := fun s => if s = "TooMany" then some true else (fun _ => none) s
def i_ValueError : String → Option Bool := fun s => if s = "TooMany" then some true else (fun _ => none) s
/-! what the top says of the built-ins and errors -/
structure Txt (K : PySem.W.Frag) (mg : Str → Option Value) : Prop where
  z_range : mg "range" = none
  z_tuple : mg "tuple" = none
  z_len : mg "len" = none
  z_sorted : mg "sorted" = none
  z_isinstance : mg "isinstance" = none
  z_ValueError : mg "ValueError" = none
  z_int : mg "int" = none
  z_bool : mg "bool" = none
  z_list : mg "list" = none
  z_reversed : mg "reversed" = none
  x_TooMany : ExcOk K mg "TooMany"
  c_MOST_ROWS : ConOk K mg "MOST_ROWS" (.int 40)
  j_NoShare : ∃ c, mg "NoShare" = some (.ref c) ∧ IsTab K mg (.ref c) i_NoShare
  j_NoSpread : ∃ c, mg "NoSpread" = some (.ref c) ∧ IsTab K mg (.ref c) i_NoSpread
  j_NoAnswer : ∃ c, mg "NoAnswer" = some (.ref c) ∧ IsTab K mg (.ref c) i_NoAnswer
  j_NoDie : ∃ c, mg "NoDie" = some (.ref c) ∧ IsTab K mg (.ref c) i_NoDie
  j_PastPurse : ∃ c, mg "PastPurse" = some (.ref c) ∧ IsTab K mg (.ref c) i_PastPurse
  j_Unlike : ∃ c, mg "Unlike" = some (.ref c) ∧ IsTab K mg (.ref c) i_Unlike
  j_BadText : ∃ c, mg "BadText" = some (.ref c) ∧ IsTab K mg (.ref c) i_BadText
  j_BadProgram : ∃ c, mg "BadProgram" = some (.ref c) ∧ IsTab K mg (.ref c) i_BadProgram
  j_BlurError : ∃ c, mg "BlurError" = some (.ref c) ∧ IsTab K mg (.ref c) i_BlurError
  j_ValueError : IsTab K mg (.type "ValueError") i_ValueError
  q_TooMany : ∃ c, mg "TooMany" = some c ∧ Clause K mg c h_TooMany
/-! _law_mixed -/
abbrev s_l_mixed : Stmt := top 16
noncomputable def b_l_mixed : DL.Env → Out := (sSeq (sSet [] 2 (eOp dMod (eOp dAdd (eOp dMul (eVarS 0) (eC (.int 48271))) (eOp dMul (eOp dMul (eOp dAdd (eVarS 1) (eC (.int 1))) (eOp dAdd (eVarS 1) (eC (.int 1)))) (eC (.int 69621)))) (eC (.int 2147483647)))) (sSeq (sRet [] (eOp dMod (eOp dMul (eVarS 2) (eVarS 2)) (eC (.int 2147483629)))) sSkip))
noncomputable def F_l_mixed : List D → Res D := runDef 2 3 b_l_mixed
/-! _law_number -/
abbrev s_l_number : Stmt := top 15
noncomputable def b_l_number : DL.Env → Out := (sSeq (sSet [] 1 (eOp dMod (eVarS 0) (eC (.int 7)))) (sSeq (sIf [] (bTest dLt (eVarS 1) (eC (.int 2))) (sSeq (sRet [] (eOp dSub (eOp dMod (eOp dDiv (eVarS 0) (eC (.int 7))) (eC (.int 11))) (eC (.int 5)))) sSkip) sSkip) (sSeq (sIf [] (bTest dEq (eVarS 1) (eC (.int 2))) (sSeq (sRet [] (eOp dIxA (eLst (aCons (eOp dPow (eC (.int 10)) (eC (.int 18))) (aCons (eNeg (eOp dPow (eC (.int 10)) (eC (.int 18)))) (aCons (eOp dSub (eOp dPow (eC (.int 10)) (eC (.int 18))) (eC (.int 1))) (aCons (eOp dSub (eC (.int 1)) (eOp dPow (eC (.int 10)) (eC (.int 18)))) (aCons (eOp dPow (eC (.int 10)) (eC (.int 9))) (aCons (eNeg (eOp dPow (eC (.int 10)) (eC (.int 9)))) aNil))))))) (eOp dMod (eOp dDiv (eVarS 0) (eC (.int 7))) (eC (.int 6))))) sSkip) sSkip) (sSeq (sRet [] (eOp dSub (eOp dMod (eOp dDiv (eVarS 0) (eC (.int 7))) (eOp dAdd (eOp dMul (eC (.int 2)) (eOp dPow (eC (.int 10)) (eC (.int 18)))) (eC (.int 1)))) (eOp dPow (eC (.int 10)) (eC (.int 18))))) sSkip))))
noncomputable def F_l_number : List D → Res D := runDef 1 2 b_l_number
/-! _law_row -/
abbrev s_l_row : Stmt := top 17
noncomputable def b_l_row_1 : DL.Env → Out := (sSeq (sSet [] 4 (eCall F_l_mixed (aCons (eVarS 0) (aCons (eOp dAdd (eC (.int 10)) (eOp dMul (eC (.int 3)) (eVarS 3))) aNil)))) (sSeq (sSet [] 5 (eOp dSub (eOp dMod (eVarS 4) (eC (.int 3))) (eC (.int 1)))) (sSeq (sIf [] (bTest dEq (eOp dMod (eOp dDiv (eVarS 4) (eC (.int 3))) (eC (.int 7))) (eC (.int 0))) (sSeq (sSet [] 5 (eCall F_l_number (aCons (eOp dAdd (eOp dMul (eVarS 0) (eOp dAdd (eVarS 3) (eC (.int 1)))) (eVarS 3)) aNil))) sSkip) sSkip) (sSeq (sMut [] 2 gAppend (aCons (eVarS 5) aNil)) sSkip))))
noncomputable def b_l_row : DL.Env → Out := (sSeq (sIf [] (bTest dEq (eOp dMod (eCall F_l_mixed (aCons (eVarS 0) (aCons (eC (.int 9)) aNil))) (eC (.int 2))) (eC (.int 0))) (sSeq (sSet [] 0 (eOp dMod (eVarS 0) (eC (.int 5)))) sSkip) sSkip) (sSeq (sSetF [] 2 (eLst aNil)) (sSeq (sFor [] (.nm 3) (iRange1 (eVarS 1)) b_l_row_1) (sSeq (sRet [] (e1 dTuple (eVar 2))) sSkip))))
noncomputable def F_l_row : List D → Res D := runDef 2 6 b_l_row
/-! _law_rows -/
abbrev s_l_rows : Stmt := top 18
noncomputable def b_l_rows : DL.Env → Out := (sSeq (sRet [] (eComp [2] (.nm 2) (iSeq (eVarS 0)) bYes (eCall F_l_row (aCons (eVarS 2) (aCons (eVarS 1) aNil))))) sSkip)
noncomputable def F_l_rows : List D → Res D := runDef 2 3 b_l_rows
/-! table_of -/
abbrev s_table_of : Stmt := top 13
noncomputable def b_table_of : DL.Env → Out := (sSeq (sIf [] (bTest dGt (e1 dLen (eVarS 0)) (eC (.int 40))) (sSeq (sRaise "TooMany") sSkip) sSkip) (sSeq (sRet [] (e1 dTuple (e1 dSorted (eVarS 0)))) sSkip))
noncomputable def F_table_of : List D → Res D := runDef 1 1 b_table_of
/-! _law_refused -/
abbrev s_l_refused : Stmt := top 21
noncomputable def b_l_refused : DL.Env → Out := (sSeq (sSet [] 1 (eC (.bl false))) (sSeq (sTryAs 2 h_TooMany (sSeq (sDrop [] (eCall F_table_of (aCons (eVarS 0) aNil))) sSkip) (fun a k => (sSeq (sSet [] 3 (eIsE 2 a (anyO [i_NoShare k, i_NoSpread k, i_NoAnswer k, i_NoDie k, i_PastPurse k, i_Unlike k, i_BadText k, i_BadProgram k]))) (sSeq (sSet [] 1 (eAnd (eIsE 2 a (i_BlurError k)) (eAnd (eIsE 2 a (i_ValueError k)) (eNot (eVarS 3))))) sSkip)))) (sSeq (sRet [] (eVarS 1)) sSkip)))
noncomputable def F_l_refused : List D → Res D := runDef 1 4 b_l_refused
/-! _law_times -/
abbrev s_l_times : Stmt := top 19
noncomputable def b_l_times_1 : DL.Env → Out := (sSeq (sPutD [] 1 (eVarS 2) (eOp dAdd (eGet2 (eVar 1) (eVarS 2) (eC (.int 0))) (eC (.int 1)))) sSkip)
noncomputable def b_l_times : DL.Env → Out := (sSeq (sSetF [] 1 (eDNew true)) (sSeq (sFor [] (.nm 2) (iSeq (eVarS 0)) b_l_times_1) (sSeq (sRet [1] (eVar 1)) sSkip)))
noncomputable def F_l_times : List D → Res D := runDef 1 3 b_l_times
/-! _law_is_heap -/
abbrev s_l_is_heap : Stmt := top 20
noncomputable def b_l_is_heap_2 : DL.Env → Out := (sSeq (sIf [] (bOr (bNot (bTruth (e1 isInt (eVarS 4)))) (bTruth (e1 isBool (eVarS 4)))) (sSeq (sRet [] (eC (.bl false))) sSkip) sSkip) sSkip)
noncomputable def b_l_is_heap_1 : DL.Env → Out := (sSeq (sIf [] (bOr (bNot (bTruth (e1 isTup (eOp dIxA (eVarS 0) (eVarS 3))))) (bOr (bTest dNe (e1 dLen (eOp dIxA (eVarS 0) (eVarS 3))) (eVarS 2)) (bAnd (bTest dGt (eVarS 3) (eC (.int 0))) (bTest dGt (eOp dIxA (eVarS 0) (eOp dSub (eVarS 3) (eC (.int 1)))) (eOp dIxA (eVarS 0) (eVarS 3)))))) (sSeq (sRet [] (eC (.bl false))) sSkip) sSkip) (sSeq (sFor [] (.nm 4) (iSeq (eOp dIxA (eVarS 0) (eVarS 3))) b_l_is_heap_2) sSkip))
noncomputable def b_l_is_heap : DL.Env → Out := (sSeq (sIf [] (bOr (bNot (bTruth (e1 isTup (eVarS 0)))) (bTest (dEqT true) (eCall F_l_times (aCons (eVarS 0) aNil)) (eCall F_l_times (aCons (eVarS 1) aNil)))) (sSeq (sRet [] (eC (.bl false))) sSkip) sSkip) (sSeq (sFor [] (.nm 3) (iRange1 (e1 dLen (eVarS 0))) b_l_is_heap_1) (sSeq (sRet [] (eC (.bl true))) sSkip)))
noncomputable def F_l_is_heap : List D → Res D := runDef 3 5 b_l_is_heap
/-! law -/
abbrev s_law : Stmt := top 22
noncomputable def b_law : DL.Env → Out := (sSeq (sSet [] 1 (eOp dAdd (eC (.int 1)) (eOp dMod (eOp dIx (eOp dAdd (eVarS 0) (eLst (aCons (eC (.int 0)) aNil))) (eC (.int 0))) (eC (.int 4))))) (sSeq (sSet [] 2 (eCall F_l_rows (aCons (eCut (eVarS 0) (oSome (eC (.int 1))) (oSome (eC (.int 61)))) (aCons (eVarS 1) aNil)))) (sSeq (sIf [] (bTest dGt (e1 dLen (eVarS 2)) (eC (.int 40))) (sSeq (sRet [] (eAnd (eCall F_l_refused (aCons (eVarS 2) aNil)) (eAnd (eCall F_l_refused (aCons (e1 dTuple (eVarS 2)) aNil)) (eCall F_l_is_heap (aCons (eCall F_table_of (aCons (eCut (eVarS 2) oNone (oSome (eC (.int 40)))) aNil)) (aCons (eCut (eVarS 2) oNone (oSome (eC (.int 40)))) (aCons (eVarS 1) aNil))))))) sSkip) sSkip) (sSeq (sSet [] 3 (e1 dList (eVarS 2))) (sSeq (sSet [] 4 (eCall F_table_of (aCons (eVarS 3) aNil))) (sSeq (sIf [] (bOr (bTest dNe (eVarS 3) (eVarS 2)) (bNot (bTruth (eCall F_l_is_heap (aCons (eVarS 4) (aCons (eVarS 2) (aCons (eVarS 1) aNil))))))) (sSeq (sRet [] (eC (.bl false))) sSkip) sSkip) (sSeq (sRet [] (eAnd (eOp dEq (eCall F_table_of (aCons (e1 dTuple (eVarS 2)) aNil)) (eVarS 4)) (eOp dEq (eCall F_table_of (aCons (e1 dRev (eVarS 2)) aNil)) (eVarS 4)))) sSkip)))))))
noncomputable def F_law : List D → Res D := runDef 1 5 b_law
@[simp] theorem strok_0 : PyData.strOk "too many rows" = true := by decide +kernel
-- LIBS 
noncomputable def t_l_mixed (cell : Int) (k : Int) : Res Int :=
  (((mulR cell (48271 : Int)).bind fun a3 => ((mulR (k + (1 : Int)) (k + (1 : Int))).bind fun a1 => (mulR a1 (69621 : Int))).bind fun b4 => .ok (a3 + b4)).bind fun a5 => .ok (a5 % (2147483647 : Int))).bind fun m6 =>
  ((mulR m6 m6).bind fun a7 => .ok (a7 % (2147483629 : Int)))
theorem r_l_mixed : CallR F_l_mixed (qC eI (q1 eI)) (fun (a : Int × Int) => t_l_mixed a.1 a.2) eI := by
  rintro ⟨cell, k⟩ _ ⟨d0, _, rfl, h0, ⟨d1, rfl, h1⟩⟩
  refine r_def (n := 2) (m := 3) (k := 1) (ρ := ([some (sh eI cell), some (sh eI k)] : KEnv)) (LeA.cons h0 (LeA.cons h1 LeA.nil)) rfl ?_
  exact (j_do (d_set (al := []) (v_opl (fun a => o_modL a (by decide)) (v_op o_add (v_opp (o_mul _ _) (v_s (E := eI) (a := cell) (i := 0) rfl) (v_c (E := eI) (a := (48271 : Int)) rfl)) (v_op o_mul (v_opp (o_mul _ _) (v_opp (o_add _ _) (v_s (E := eI) (a := k) (i := 1) rfl) (v_c (E := eI) (a := (1 : Int)) rfl)) (v_opp (o_add _ _) (v_s (E := eI) (a := k) (i := 1) rfl) (v_c (E := eI) (a := (1 : Int)) rfl))) (v_c (E := eI) (a := (69621 : Int)) rfl))) (v_c (E := eI) (a := (2147483647 : Int)) rfl))) (fun m6 => (j_retT (v_opl (fun a => o_modL a (by decide)) (v_opp (o_mul _ _) (v_s (E := eI) (a := m6) (i := 2) rfl) (v_s (E := eI) (a := m6) (i := 2) rfl)) (v_c (E := eI) (a := (2147483629 : Int)) rfl)))))
theorem c_l_mixed {ρ : KEnv} {fs : DL.Env → Res (List D)} {x0 : Int} {x1 : Int} (h : EvR ρ fs (.ok (x0, x1)) (qC eI (q1 eI))) : EvR ρ (eCall F_l_mixed fs) (t_l_mixed x0 x1) eI := v_callp (t := fun a : Int × Int => t_l_mixed a.1 a.2) (a := (x0, x1)) r_l_mixed h
theorem m_l_mixed {ρ : KEnv} {fs : DL.Env → Res (List D)} {r : Res (Int × Int)} (h : EvR ρ fs r (qC eI (q1 eI))) : EvR ρ (eCall F_l_mixed fs) (r.bind fun a => t_l_mixed a.1 a.2) eI := v_call (t := fun a : Int × Int => t_l_mixed a.1 a.2) r_l_mixed h
noncomputable def t_l_number (n : Int) : Res Int :=
  if (n % (7 : Int)) < (2 : Int) then
  Res.ok (((n / (7 : Int)) % (11 : Int)) - (5 : Int))
else
  if (n % (7 : Int)) = (2 : Int) then
  (getL [(10 ^ 18 : Int), (-(10 ^ 18 : Int)), ((10 ^ 18 : Int) - (1 : Int)), ((1 : Int) - (10 ^ 18 : Int)), (10 ^ 9 : Int), (-(10 ^ 9 : Int))] ((n / (7 : Int)) % (6 : Int)))
else
  ((((mulR (2 : Int) (10 ^ 18 : Int)).bind fun a1 => .ok (a1 + (1 : Int))).bind fun b4 => (modR (n / (7 : Int)) b4)).bind fun a5 => .ok (a5 - (10 ^ 18 : Int)))
theorem r_l_number : CallR F_l_number (q1 eI) (fun (a : Int) => t_l_number a) eI := by
  rintro n _ ⟨d0, rfl, h0⟩
  refine r_def (n := 1) (m := 2) (k := 1) (ρ := ([some (sh eI n)] : KEnv)) (LeA.cons h0 LeA.nil) rfl ?_
  exact (j_go (g_set (al := []) (v_opp (o_modL _ (by decide)) (v_s (E := eI) (a := n) (i := 0) rfl) (v_c (E := eI) (a := (7 : Int)) rfl))) (j_ifsP (al := []) (b_test (v_opp (o_lt _ _) (v_s (E := eI) (a := (n % (7 : Int))) (i := 1) rfl) (v_c (E := eI) (a := (2 : Int)) rfl))) (j_assoc (j_retT (v_opp (o_sub _ _) (v_opp (o_modL _ (by decide)) (v_opp (o_divL _ (by decide) (by decide)) (v_s (E := eI) (a := n) (i := 0) rfl) (v_c (E := eI) (a := (7 : Int)) rfl)) (v_c (E := eI) (a := (11 : Int)) rfl)) (v_c (E := eI) (a := (5 : Int)) rfl)))) (j_skip (j_ifsP (al := []) (b_test (v_opp ((o_eq (EqE.int _)) _ _) (v_s (E := eI) (a := (n % (7 : Int))) (i := 1) rfl) (v_c (E := eI) (a := (2 : Int)) rfl))) (j_assoc (j_retT (v_opp (o_ixAL _ _) (v_lst (vl_cp (v_opp (o_powL pow_10_18) (v_c (E := eI) (a := (10 : Int)) rfl) (v_c (E := eI) (a := (18 : Int)) rfl)) (vl_cp (v_neg (v_opp (o_powL pow_10_18) (v_c (E := eI) (a := (10 : Int)) rfl) (v_c (E := eI) (a := (18 : Int)) rfl))) (vl_cp (v_opp (o_sub _ _) (v_opp (o_powL pow_10_18) (v_c (E := eI) (a := (10 : Int)) rfl) (v_c (E := eI) (a := (18 : Int)) rfl)) (v_c (E := eI) (a := (1 : Int)) rfl)) (vl_cp (v_opp (o_sub _ _) (v_c (E := eI) (a := (1 : Int)) rfl) (v_opp (o_powL pow_10_18) (v_c (E := eI) (a := (10 : Int)) rfl) (v_c (E := eI) (a := (18 : Int)) rfl))) (vl_cp (v_opp (o_powL pow_10_9) (v_c (E := eI) (a := (10 : Int)) rfl) (v_c (E := eI) (a := (9 : Int)) rfl)) (vl_cp (v_neg (v_opp (o_powL pow_10_9) (v_c (E := eI) (a := (10 : Int)) rfl) (v_c (E := eI) (a := (9 : Int)) rfl))) vl_nil))))))) (v_opp (o_modL _ (by decide)) (v_opp (o_divL _ (by decide) (by decide)) (v_s (E := eI) (a := n) (i := 0) rfl) (v_c (E := eI) (a := (7 : Int)) rfl)) (v_c (E := eI) (a := (6 : Int)) rfl))))) (j_skip (j_retT (v_op o_sub (v_op o_mod (v_opp (o_divL _ (by decide) (by decide)) (v_s (E := eI) (a := n) (i := 0) rfl) (v_c (E := eI) (a := (7 : Int)) rfl)) (v_op o_add (v_opp (o_mul _ _) (v_c (E := eI) (a := (2 : Int)) rfl) (v_opp (o_powL pow_10_18) (v_c (E := eI) (a := (10 : Int)) rfl) (v_c (E := eI) (a := (18 : Int)) rfl))) (v_c (E := eI) (a := (1 : Int)) rfl))) (v_opp (o_powL pow_10_18) (v_c (E := eI) (a := (10 : Int)) rfl) (v_c (E := eI) (a := (18 : Int)) rfl)))))))))
theorem c_l_number {ρ : KEnv} {fs : DL.Env → Res (List D)} {x0 : Int} (h : EvR ρ fs (.ok x0) (q1 eI)) : EvR ρ (eCall F_l_number fs) (t_l_number x0) eI := v_callp (t := fun a : Int => t_l_number a) (a := x0) r_l_number h
theorem m_l_number {ρ : KEnv} {fs : DL.Env → Res (List D)} {r : Res (Int)} (h : EvR ρ fs r (q1 eI)) : EvR ρ (eCall F_l_number fs) (r.bind fun a => t_l_number a) eI := v_call (t := fun a : Int => t_l_number a) r_l_number h
noncomputable def t_l_row (cell : Int) (width : Int) : Res (List Int) :=
  ((((t_l_mixed cell (9 : Int)).bind fun a1 => .ok (a1 % (2 : Int))).bind fun a2 => .ok (decide (a2 = (0 : Int)))).bind fun z => if z = true then Res.ok (cell % (5 : Int)) else Res.ok cell : Res (Int)).bind fun z4 =>
  ((rng1 width).bind fun l21 => forR l21 ([] : List Int) (fun k6 s5 =>
  (((mulR (3 : Int) k6).bind fun b8 => .ok ((10 : Int) + b8)).bind fun a12 => t_l_mixed z4 a12).bind fun n13 =>
  (Res.ok ((n13 % (3 : Int)) - (1 : Int))).bind fun one14 =>
  (if ((n13 / (3 : Int)) % (7 : Int)) = (0 : Int) then (((mulR z4 (k6 + (1 : Int))).bind fun a16 => .ok (a16 + k6)).bind fun a18 => t_l_number a18).bind fun one19 =>
  Res.ok one19 else Res.ok one14 : Res (Int)).bind fun z15 =>
  (appR s5 z15).bind fun row_here20 =>
  Res.ok row_here20) : Res ((List Int))).bind fun s5 =>
  Res.ok s5
theorem r_l_row : CallR F_l_row (qC eI (q1 eI)) (fun (a : Int × Int) => t_l_row a.1 a.2) eR := by
  rintro ⟨cell, width⟩ _ ⟨d0, _, rfl, h0, ⟨d1, rfl, h1⟩⟩
  refine r_def (n := 2) (m := 6) (k := 4) (ρ := ([some (sh eI cell), some (sh eI width)] : KEnv)) (LeA.cons h0 (LeA.cons h1 LeA.nil)) rfl ?_
  exact (j_do (j_if (P := PN fun (z4 : (Int)) => ([some (sh eI z4), some (sh eI width), none, none, none, none] : KEnv)) (al := []) (b_test (v_op (o_eq (EqE.int _)) (v_opl (fun a => o_modL a (by decide)) (c_l_mixed (vq_cp (v_s (E := eI) (a := cell) (i := 0) rfl) (vq_1 (v_c (E := eI) (a := (9 : Int)) rfl)))) (v_c (E := eI) (a := (2 : Int)) rfl)) (v_c (E := eI) (a := (0 : Int)) rfl))) (j_go (g_set (al := []) (v_opp (o_modL _ (by decide)) (v_s (E := eI) (a := cell) (i := 0) rfl) (v_c (E := eI) (a := (5 : Int)) rfl))) (j_end (Sb.same (Sb.same (Sb.drop (Sb.drop (Sb.drop (Sb.drop Sb.nil)))))))) (j_end (Sb.same (Sb.same (Sb.drop (Sb.drop (Sb.drop (Sb.drop Sb.nil)))))))) (fun z4 => (j_go (g_setF (al := []) (v_lst (vl_nil (E := eI)))) (j_do (d_for (al := []) (ρs := fun (s5 : ((List Int))) => ([some (sh eI z4), some (sh eI width), some (ow (eL eI) s5), none, none, none] : KEnv)) (ρb := fun k6 (s5 : ((List Int))) => ([some (sh eI z4), some (sh eI width), some (ow (eL eI) s5), some (sh eI k6), none, none] : KEnv)) (v_rng1p (v_s (E := eI) (a := width) (i := 1) rfl)) (Sb.same (Sb.same (Sb.same (Sb.drop (Sb.drop (Sb.drop Sb.nil)))))) (fun k6 s5 => (p_nm (i := 3))) (fun k6 s5 => (j_do (d_set (al := []) (v_eqr (r := (((mulR (3 : Int) k6).bind fun b8 => .ok ((10 : Int) + b8)).bind fun b10 => .ok (z4, b10)).bind fun a => t_l_mixed a.1 a.2) (m_l_mixed (vq_c (v_s (E := eI) (a := z4) (i := 0) rfl) (vq_1 (v_op o_add (v_c (E := eI) (a := (10 : Int)) rfl) (v_opp (o_mul _ _) (v_c (E := eI) (a := (3 : Int)) rfl) (v_s (E := eI) (a := k6) (i := 3) rfl)))))) (by first | (simp only [Res.assoc, Res.bind_ok]; done) | (simp only [Res.assoc, Res.bind_ok]; rfl)))) (fun n13 => (j_do (d_set (al := []) (v_opp (o_sub _ _) (v_opp (o_modL _ (by decide)) (v_s (E := eI) (a := n13) (i := 4) rfl) (v_c (E := eI) (a := (3 : Int)) rfl)) (v_c (E := eI) (a := (1 : Int)) rfl))) (fun one14 => (j_do (j_ifP (P := PN fun (z15 : (Int)) => ([some (sh eI z4), some (sh eI width), some (ow (eL eI) s5), some (sh eI k6), some (sh eI n13), some (sh eI z15)] : KEnv)) (al := []) (b_test (v_opp ((o_eq (EqE.int _)) _ _) (v_opp (o_modL _ (by decide)) (v_opp (o_divL _ (by decide) (by decide)) (v_s (E := eI) (a := n13) (i := 4) rfl) (v_c (E := eI) (a := (3 : Int)) rfl)) (v_c (E := eI) (a := (7 : Int)) rfl)) (v_c (E := eI) (a := (0 : Int)) rfl))) (j_do (d_set (al := []) (m_l_number (vq_1 (v_op o_add (v_opp (o_mul _ _) (v_s (E := eI) (a := z4) (i := 0) rfl) (v_opp (o_add _ _) (v_s (E := eI) (a := k6) (i := 3) rfl) (v_c (E := eI) (a := (1 : Int)) rfl))) (v_s (E := eI) (a := k6) (i := 3) rfl))))) (fun one19 => (j_end (Sb.same (Sb.same (Sb.same (Sb.same (Sb.same (Sb.same Sb.nil))))))))) (j_end (Sb.same (Sb.same (Sb.same (Sb.same (Sb.same (Sb.same Sb.nil)))))))) (fun z15 => (j_do (d_appP (al := []) rfl (v_s (E := eI) (a := z15) (i := 5) rfl)) (fun row_here20 => (j_endB (Sb.same (Sb.same (Sb.same (Sb.drop (Sb.drop (Sb.drop Sb.nil))))))))))))))))) (fun s5 => (j_retT (v_1p (o_tupLR _) (v_o (E := (eL eI)) (a := s5) (i := 2) rfl))))))))
theorem c_l_row {ρ : KEnv} {fs : DL.Env → Res (List D)} {x0 : Int} {x1 : Int} (h : EvR ρ fs (.ok (x0, x1)) (qC eI (q1 eI))) : EvR ρ (eCall F_l_row fs) (t_l_row x0 x1) eR := v_callp (t := fun a : Int × Int => t_l_row a.1 a.2) (a := (x0, x1)) r_l_row h
theorem m_l_row {ρ : KEnv} {fs : DL.Env → Res (List D)} {r : Res (Int × Int)} (h : EvR ρ fs r (qC eI (q1 eI))) : EvR ρ (eCall F_l_row fs) (r.bind fun a => t_l_row a.1 a.2) eR := v_call (t := fun a : Int × Int => t_l_row a.1 a.2) r_l_row h
noncomputable def t_l_rows (cells : (List Int)) (width : Int) : Res (List (List Int)) :=
  (compR cells (fun cell1 => (t_l_row cell1 width)))
theorem r_l_rows : CallR F_l_rows (qC (eL eI) (q1 eI)) (fun (a : (List Int) × Int) => t_l_rows a.1 a.2) (eL eR) := by
  rintro ⟨cells, width⟩ _ ⟨d0, _, rfl, h0, ⟨d1, rfl, h1⟩⟩
  refine r_def (n := 2) (m := 3) (k := 1) (ρ := ([some (sh (eL eI) cells), some (sh eI width)] : KEnv)) (LeA.cons h0 (LeA.cons h1 LeA.nil)) rfl ?_
  exact (j_retT (v_compP (ρb := fun cell1 => ([some (sh (eL eI) cells), some (sh eI width), some (sh eI cell1)] : KEnv)) (v_seqL (v_s (E := (eL eI)) (a := cells) (i := 0) rfl)) (fun cell1 => (p_nm (i := 2))) (fun cell1 => (c_l_row (vq_cp (v_s (E := eI) (a := cell1) (i := 2) rfl) (vq_1 (v_s (E := eI) (a := width) (i := 1) rfl)))))))
theorem c_l_rows {ρ : KEnv} {fs : DL.Env → Res (List D)} {x0 : (List Int)} {x1 : Int} (h : EvR ρ fs (.ok (x0, x1)) (qC (eL eI) (q1 eI))) : EvR ρ (eCall F_l_rows fs) (t_l_rows x0 x1) (eL eR) := v_callp (t := fun a : (List Int) × Int => t_l_rows a.1 a.2) (a := (x0, x1)) r_l_rows h
theorem m_l_rows {ρ : KEnv} {fs : DL.Env → Res (List D)} {r : Res ((List Int) × Int)} (h : EvR ρ fs r (qC (eL eI) (q1 eI))) : EvR ρ (eCall F_l_rows fs) (r.bind fun a => t_l_rows a.1 a.2) (eL eR) := v_call (t := fun a : (List Int) × Int => t_l_rows a.1 a.2) r_l_rows h
noncomputable def t_table_of (rows : (List (List Int))) : Res (List (List Int)) :=
  if (40 : Int) < ((rows.length : Nat) : Int) then
  Res.exc "TooMany" []
else
  (sortKR rows)
theorem r_table_of : CallR F_table_of (q1 (eW eR)) (fun (a : (List (List Int))) => t_table_of a) (eT eR) := by
  rintro rows _ ⟨d0, rfl, h0⟩
  refine r_def (n := 1) (m := 1) (k := 0) (ρ := ([some (sh (eW eR) rows)] : KEnv)) (LeA.cons h0 LeA.nil) rfl ?_
  exact (j_ifsP (al := []) (b_test (v_opp (o_gt _ _) (v_1p (o_lenW _) (v_s (E := (eW eR)) (a := rows) (i := 0) rfl)) (v_c (E := eI) (a := (40 : Int)) rfl))) (j_assoc j_raise) (j_skip (j_retT (v_1i o_tupL (v_1p (o_sortWK _) (v_s (E := (eW eR)) (a := rows) (i := 0) rfl))))))
theorem c_table_of {ρ : KEnv} {fs : DL.Env → Res (List D)} {x0 : (List (List Int))} (h : EvR ρ fs (.ok x0) (q1 (eW eR))) : EvR ρ (eCall F_table_of fs) (t_table_of x0) (eT eR) := v_callp (t := fun a : (List (List Int)) => t_table_of a) (a := x0) r_table_of h
theorem m_table_of {ρ : KEnv} {fs : DL.Env → Res (List D)} {r : Res ((List (List Int)))} (h : EvR ρ fs r (q1 (eW eR))) : EvR ρ (eCall F_table_of fs) (r.bind fun a => t_table_of a) (eT eR) := v_call (t := fun a : (List (List Int)) => t_table_of a) r_table_of h
noncomputable def t_l_refused (rows_here : (List (List Int))) : Res Bool :=
  (hitR h_TooMany ((t_table_of rows_here).bind fun u1 =>
  Res.ok false) (fun c => (optR (anyO [i_NoShare c, i_NoSpread c, i_NoAnswer c, i_NoDie c, i_PastPurse c, i_Unlike c, i_BadText c, i_BadProgram c])).bind fun other3 =>
  ((optR (i_BlurError c)).bind fun z => if z = true then ((optR (i_ValueError c)).bind fun z => if z = true then (Res.ok (decide (¬ (other3 = true)))) else .ok false) else .ok false).bind fun told4 =>
  Res.ok told4) : Res (Bool)).bind fun z2 =>
  Res.ok z2
theorem r_l_refused : CallR F_l_refused (q1 (eW eR)) (fun (a : (List (List Int))) => t_l_refused a) eB := by
  rintro rows_here _ ⟨d0, rfl, h0⟩
  refine r_def (n := 1) (m := 4) (k := 3) (ρ := ([some (sh (eW eR) rows_here)] : KEnv)) (LeA.cons h0 LeA.nil) rfl ?_
  exact (j_go (g_set (al := []) (v_c (E := eB) (a := false) rfl)) (j_do (j_tryAs (ρx := ([some (sh (eW eR) rows_here), some (sh eB false), none, none] : KEnv)) (ρs := fun (z2 : (Bool)) => ([some (sh (eW eR) rows_here), some (sh eB z2), none, none] : KEnv)) (t_do (t_drop (al := []) (Sb.same (Sb.same (Sb.drop (Sb.drop Sb.nil)))) (c_table_of (vq_1 (v_s (E := (eW eR)) (a := rows_here) (i := 0) rfl)))) (fun u1 => (t_end (Sb.same (Sb.same (Sb.drop (Sb.drop Sb.nil))))))) (fun c => (uh_set (by decide) Fun.bl (fun a => (v_isE rfl)) (fun other3 => (uh_set (by decide) Fun.bl (fun a => (v_and (v_isE rfl) (v_and (v_isE rfl) (v_notP (v_P (v_s (E := eB) (a := other3) (i := 3) rfl)))))) (fun told4 => (uh_end (Sb.same (Sb.same (Sb.drop (Sb.drop Sb.nil))))))))))) (fun z2 => (j_retT (v_s (E := eB) (a := z2) (i := 1) rfl)))))
theorem c_l_refused {ρ : KEnv} {fs : DL.Env → Res (List D)} {x0 : (List (List Int))} (h : EvR ρ fs (.ok x0) (q1 (eW eR))) : EvR ρ (eCall F_l_refused fs) (t_l_refused x0) eB := v_callp (t := fun a : (List (List Int)) => t_l_refused a) (a := x0) r_l_refused h
theorem m_l_refused {ρ : KEnv} {fs : DL.Env → Res (List D)} {r : Res ((List (List Int)))} (h : EvR ρ fs r (q1 (eW eR))) : EvR ρ (eCall F_l_refused fs) (r.bind fun a => t_l_refused a) eB := v_call (t := fun a : (List (List Int)) => t_l_refused a) r_l_refused h
noncomputable def t_l_times (rows_here : (List (List Int))) : Res (List ((List Int) × Int)) :=
  (Res.ok ([] : (List ((List Int) × Int)))).bind fun times_here1 =>
  (forR rows_here times_here1 (fun row_here3 s2 =>
  (putDR s2 row_here3 (((getG s2 row_here3).getD (0 : Int)) + (1 : Int))).bind fun times_here4 =>
  Res.ok times_here4) : Res ((List ((List Int) × Int)))).bind fun s2 =>
  Res.ok s2
theorem r_l_times : CallR F_l_times (q1 (eW eR)) (fun (a : (List (List Int))) => t_l_times a) (eM true ans eI) := by
  rintro rows_here _ ⟨d0, rfl, h0⟩
  refine r_def (n := 1) (m := 3) (k := 2) (ρ := ([some (sh (eW eR) rows_here)] : KEnv)) (LeA.cons h0 LeA.nil) rfl ?_
  exact (j_do (d_setF (al := []) v_dnew) (fun times_here1 => (j_do (d_forP (al := []) (ρs := fun (s2 : ((List ((List Int) × Int)))) => ([some (sh (eW eR) rows_here), some (ow (eM true ans eI) s2), none] : KEnv)) (ρb := fun row_here3 (s2 : ((List ((List Int) × Int)))) => ([some (sh (eW eR) rows_here), some (ow (eM true ans eI) s2), some (sh eR row_here3)] : KEnv)) (v_seqW (v_s (E := (eW eR)) (a := rows_here) (i := 0) rfl)) (Sb.same (Sb.same (Sb.drop Sb.nil))) (fun row_here3 s2 => (p_nm (i := 2))) (fun row_here3 s2 => (j_do (d_putDP KeyF.row (al := []) rfl (v_keyR (v_s (E := eR) (a := row_here3) (i := 2) rfl)) (v_opp (o_add _ _) (v_get2p KeyF.row (v_o (E := (eM true ans eI)) (a := s2) (i := 1) rfl) (v_keyR (v_s (E := eR) (a := row_here3) (i := 2) rfl)) (v_c (E := eI) (a := (0 : Int)) rfl)) (v_c (E := eI) (a := (1 : Int)) rfl))) (fun times_here4 => (j_endB (Sb.same (Sb.same (Sb.drop Sb.nil)))))))) (fun s2 => (j_retT (v_o (E := (eM true ans eI)) (a := s2) (i := 1) rfl))))))
theorem c_l_times {ρ : KEnv} {fs : DL.Env → Res (List D)} {x0 : (List (List Int))} (h : EvR ρ fs (.ok x0) (q1 (eW eR))) : EvR ρ (eCall F_l_times fs) (t_l_times x0) (eM true ans eI) := v_callp (t := fun a : (List (List Int)) => t_l_times a) (a := x0) r_l_times h
theorem m_l_times {ρ : KEnv} {fs : DL.Env → Res (List D)} {r : Res ((List (List Int)))} (h : EvR ρ fs r (q1 (eW eR))) : EvR ρ (eCall F_l_times fs) (r.bind fun a => t_l_times a) (eM true ans eI) := v_call (t := fun a : (List (List Int)) => t_l_times a) r_l_times h
noncomputable def t_l_is_heap (found : (List (List Int))) (due : (List (List Int))) (width : Int) : Res Bool :=
  (if ¬ (true = true) then .ok true else ((t_l_times found).bind fun a1 => (t_l_times due).bind fun b2 => .ok (true ^^ sameM a1 b2))).bind fun z => if z = true then
  Res.ok false
else
  thenX ((rng1 ((found.length : Nat) : Int)).bind fun l13 => forX l13 () (fun k4 s3 =>
  ((((getL found k4).bind fun _ => .ok true).bind fun z => .ok (!z)).bind fun z => if z = true then .ok true else ((((getL found k4).bind fun a5 => .ok ((a5.length : Nat) : Int)).bind fun a6 => .ok (decide (a6 ≠ width))).bind fun z => if z = true then .ok true else (if (0 : Int) < k4 then ((getL found (k4 - (1 : Int))).bind fun a8 => (getL found k4).bind fun b9 => .ok (decide (lexB b9 a8 = true))) else .ok false))).bind fun z => if z = true then
  Res.ok (.rt false)
else
  thenX ((getL found k4).bind fun l12 => forX l12 () (fun one11 s10 =>
  if ((¬ (true = true)) ∨ (false = true)) then
  Res.ok (.rt false)
else
  Res.ok (.nx ())) : Res (Oc Unit Bool)) .rt fun s10 =>
  Res.ok (.nx ())) : Res (Oc Unit Bool)) (fun v => v) fun s3 =>
  Res.ok true
theorem r_l_is_heap : CallR F_l_is_heap (qC (eT eR) (qC (eL eR) (q1 eI))) (fun (a : (List (List Int)) × (List (List Int)) × Int) => t_l_is_heap a.1 a.2.1 a.2.2) eB := by
  rintro ⟨found, due, width⟩ _ ⟨d0, _, rfl, h0, ⟨d1, _, rfl, h1, ⟨d2, rfl, h2⟩⟩⟩
  refine r_def (n := 3) (m := 5) (k := 2) (ρ := ([some (sh (eT eR) found), some (sh (eL eR) due), some (sh eI width)] : KEnv)) (LeA.cons h0 (LeA.cons h1 (LeA.cons h2 LeA.nil))) rfl ?_
  exact (j_ifs (al := []) (b_orM (b_notP (b_P (b_truB (v_1p (isTup_Tup _) (v_s (E := (eT eR)) (a := found) (i := 0) rfl))))) (b_test (v_op (o_dT true) (c_l_times (vq_1 (v_imp (v_s (E := (eT eR)) (a := found) (i := 0) rfl) t_w))) (c_l_times (vq_1 (v_imp (v_s (E := (eL eR)) (a := due) (i := 1) rfl) l_w)))))) (j_assoc (j_retT (v_c (E := eB) (a := false) rfl))) (j_skip (j_xT (d_forX (E' := eB) (al := []) (ρs := fun (s3 : Unit) => ([some (sh (eT eR) found), some (sh (eL eR) due), some (sh eI width), none, none] : KEnv)) (ρb := fun k4 (s3 : Unit) => ([some (sh (eT eR) found), some (sh (eL eR) due), some (sh eI width), some (sh eI k4), none] : KEnv)) (v_rng1p (v_1p (o_lenT _) (v_s (E := (eT eR)) (a := found) (i := 0) rfl))) (Sb.same (Sb.same (Sb.same (Sb.drop (Sb.drop Sb.nil))))) (fun k4 s3 => (p_nm (i := 3))) (fun k4 s3 => (j_ifs (al := []) (b_or (b_not (b_truB (v_1 isTup_Row (v_opp (o_ixAT _ _) (v_s (E := (eT eR)) (a := found) (i := 0) rfl) (v_s (E := eI) (a := k4) (i := 3) rfl))))) (b_or (b_test (v_op (o_ne (EqE.int _)) (v_1 o_lenR (v_opp (o_ixAT _ _) (v_s (E := (eT eR)) (a := found) (i := 0) rfl) (v_s (E := eI) (a := k4) (i := 3) rfl))) (v_s (E := eI) (a := width) (i := 2) rfl))) (b_andM (b_test (v_opp (o_gt _ _) (v_s (E := eI) (a := k4) (i := 3) rfl) (v_c (E := eI) (a := (0 : Int)) rfl))) (b_test (v_op o_gtR (v_opp (o_ixAT _ _) (v_s (E := (eT eR)) (a := found) (i := 0) rfl) (v_opp (o_sub _ _) (v_s (E := eI) (a := k4) (i := 3) rfl) (v_c (E := eI) (a := (1 : Int)) rfl))) (v_opp (o_ixAT _ _) (v_s (E := (eT eR)) (a := found) (i := 0) rfl) (v_s (E := eI) (a := k4) (i := 3) rfl))))))) (j_assoc (j_retL (v_c (E := eB) (a := false) rfl))) (j_skip (j_xL (d_forX (E' := eB) (al := []) (ρs := fun (s10 : Unit) => ([some (sh (eT eR) found), some (sh (eL eR) due), some (sh eI width), some (sh eI k4), none] : KEnv)) (ρb := fun one11 (s10 : Unit) => ([some (sh (eT eR) found), some (sh (eL eR) due), some (sh eI width), some (sh eI k4), some (sh eI one11)] : KEnv)) (v_seqR (v_opp (o_ixAT _ _) (v_s (E := (eT eR)) (a := found) (i := 0) rfl) (v_s (E := eI) (a := k4) (i := 3) rfl))) (Sb.same (Sb.same (Sb.same (Sb.same (Sb.drop Sb.nil))))) (fun one11 s10 => (p_nm (i := 4))) (fun one11 s10 => (j_ifsP (al := []) (b_orP (b_notP (b_P (b_truB (v_1p (isInt_Int _) (v_s (E := eI) (a := one11) (i := 4) rfl))))) (b_P (b_truB (v_1p (isBool_Int _) (v_s (E := eI) (a := one11) (i := 4) rfl))))) (j_assoc (j_retL (v_c (E := eB) (a := false) rfl))) (j_skip (j_endL (Sb.same (Sb.same (Sb.same (Sb.same (Sb.drop Sb.nil)))))))))) (fun s10 => (j_endL (Sb.same (Sb.same (Sb.same (Sb.drop (Sb.drop Sb.nil)))))))))))) (fun s3 => (j_retT (v_c (E := eB) (a := true) rfl))))))
theorem c_l_is_heap {ρ : KEnv} {fs : DL.Env → Res (List D)} {x0 : (List (List Int))} {x1 : (List (List Int))} {x2 : Int} (h : EvR ρ fs (.ok (x0, x1, x2)) (qC (eT eR) (qC (eL eR) (q1 eI)))) : EvR ρ (eCall F_l_is_heap fs) (t_l_is_heap x0 x1 x2) eB := v_callp (t := fun a : (List (List Int)) × (List (List Int)) × Int => t_l_is_heap a.1 a.2.1 a.2.2) (a := (x0, x1, x2)) r_l_is_heap h
theorem m_l_is_heap {ρ : KEnv} {fs : DL.Env → Res (List D)} {r : Res ((List (List Int)) × (List (List Int)) × Int)} (h : EvR ρ fs r (qC (eT eR) (qC (eL eR) (q1 eI)))) : EvR ρ (eCall F_l_is_heap fs) (r.bind fun a => t_l_is_heap a.1 a.2.1 a.2.2) eB := v_call (t := fun a : (List (List Int)) × (List (List Int)) × Int => t_l_is_heap a.1 a.2.1 a.2.2) r_l_is_heap h
noncomputable def t_law (script : (List Int)) : Res Bool :=
  ((((catR script [(0 : Int)]).bind fun a1 => (getL a1 (0 : Int))).bind fun a3 => .ok (a3 % (4 : Int))).bind fun b5 => .ok ((1 : Int) + b5)).bind fun width6 =>
  (t_l_rows (cutL script (some (1 : Int)) (some (61 : Int))) width6).bind fun rows_here7 =>
  if (40 : Int) < ((rows_here7.length : Nat) : Int) then
  ((t_l_refused rows_here7).bind fun z => if z = true then ((t_l_refused rows_here7).bind fun z => if z = true then ((t_table_of (cutL rows_here7 none (some (40 : Int)))).bind fun a10 => t_l_is_heap a10 (cutL rows_here7 none (some (40 : Int))) width6) else .ok false) else .ok false)
else
  (t_table_of rows_here7).bind fun found13 =>
  (if rows_here7 ≠ rows_here7 then .ok true else ((t_l_is_heap found13 rows_here7 width6).bind fun z => .ok (!z))).bind fun z => if z = true then
  Res.ok false
else
  (((t_table_of rows_here7).bind fun a14 => .ok (decide (a14 = found13))).bind fun z => if z = true then ((t_table_of rows_here7.reverse).bind fun a16 => .ok (decide (a16 = found13))) else .ok false)
theorem r_law : CallR F_law (q1 (eL eI)) (fun (a : (List Int)) => t_law a) eB := by
  rintro script _ ⟨d0, rfl, h0⟩
  refine r_def (n := 1) (m := 5) (k := 4) (ρ := ([some (sh (eL eI) script)] : KEnv)) (LeA.cons h0 LeA.nil) rfl ?_
  exact (j_do (d_set (al := []) (v_op o_add (v_c (E := eI) (a := (1 : Int)) rfl) (v_opl (fun a => o_modL a (by decide)) (v_op o_ixL (v_opp (o_catL _ _) (v_s (E := (eL eI)) (a := script) (i := 0) rfl) (v_lst (vl_cp (v_c (E := eI) (a := (0 : Int)) rfl) vl_nil))) (v_c (E := eI) (a := (0 : Int)) rfl)) (v_c (E := eI) (a := (4 : Int)) rfl)))) (fun width6 => (j_do (d_set (al := []) (c_l_rows (vq_cp (v_cutL (v_s (E := (eL eI)) (a := script) (i := 0) rfl) (vo_s (v_c (E := eI) (a := (1 : Int)) rfl)) (vo_s (v_c (E := eI) (a := (61 : Int)) rfl))) (vq_1 (v_s (E := eI) (a := width6) (i := 1) rfl))))) (fun rows_here7 => (j_ifsP (al := []) (b_test (v_opp (o_gt _ _) (v_1p (o_lenL _) (v_s (E := (eL eR)) (a := rows_here7) (i := 2) rfl)) (v_c (E := eI) (a := (40 : Int)) rfl))) (j_assoc (j_retT (v_and (c_l_refused (vq_1 (v_imp (v_s (E := (eL eR)) (a := rows_here7) (i := 2) rfl) l_w))) (v_and (c_l_refused (vq_1 (v_imp (v_1p (o_tupL _) (v_s (E := (eL eR)) (a := rows_here7) (i := 2) rfl)) t_w))) (v_eqr (r := ((t_table_of (cutL rows_here7 none (some (40 : Int)))).bind fun a8 => .ok (a8, (cutL rows_here7 none (some (40 : Int))), width6)).bind fun a => t_l_is_heap a.1 a.2.1 a.2.2) (m_l_is_heap (vq_c (c_table_of (vq_1 (v_imp (v_cutL (v_s (E := (eL eR)) (a := rows_here7) (i := 2) rfl) vo_n (vo_s (v_c (E := eI) (a := (40 : Int)) rfl))) l_w))) (vq_cp (v_cutL (v_s (E := (eL eR)) (a := rows_here7) (i := 2) rfl) vo_n (vo_s (v_c (E := eI) (a := (40 : Int)) rfl))) (vq_1 (v_s (E := eI) (a := width6) (i := 1) rfl))))) (by first | (simp only [Res.assoc, Res.bind_ok]; done) | (simp only [Res.assoc, Res.bind_ok]; rfl))))))) (j_skip (j_go (g_set (al := []) (v_1p (o_lstL _) (v_s (E := (eL eR)) (a := rows_here7) (i := 2) rfl))) (j_do (d_set (al := []) (c_table_of (vq_1 (v_imp (v_s (E := (eL eR)) (a := rows_here7) (i := 3) rfl) l_w)))) (fun found13 => (j_ifs (al := []) (b_orM (b_test (v_opp ((o_ne (EqE.lst (EqE.row _))) _ _) (v_s (E := (eL eR)) (a := rows_here7) (i := 3) rfl) (v_s (E := (eL eR)) (a := rows_here7) (i := 2) rfl))) (b_not (b_truB (c_l_is_heap (vq_cp (v_s (E := (eT eR)) (a := found13) (i := 4) rfl) (vq_cp (v_s (E := (eL eR)) (a := rows_here7) (i := 2) rfl) (vq_1 (v_s (E := eI) (a := width6) (i := 1) rfl)))))))) (j_assoc (j_retT (v_c (E := eB) (a := false) rfl))) (j_skip (j_retT (v_and (v_op (o_eq (EqE.tup (EqE.row _))) (c_table_of (vq_1 (v_imp (v_1p (o_tupL _) (v_s (E := (eL eR)) (a := rows_here7) (i := 2) rfl)) t_w))) (v_s (E := (eT eR)) (a := found13) (i := 4) rfl)) (v_op (o_eq (EqE.tup (EqE.row _))) (c_table_of (vq_1 (v_imp (v_1p (o_rev _) (v_s (E := (eL eR)) (a := rows_here7) (i := 2) rfl)) l_w))) (v_s (E := (eT eR)) (a := found13) (i := 4) rfl)))))))))))))))
theorem c_law {ρ : KEnv} {fs : DL.Env → Res (List D)} {x0 : (List Int)} (h : EvR ρ fs (.ok x0) (q1 (eL eI))) : EvR ρ (eCall F_law fs) (t_law x0) eB := v_callp (t := fun a : (List Int) => t_law a) (a := x0) r_law h
theorem m_law {ρ : KEnv} {fs : DL.Env → Res (List D)} {r : Res ((List Int))} (h : EvR ρ fs r (q1 (eL eI))) : EvR ρ (eCall F_law fs) (r.bind fun a => t_law a) eB := v_call (t := fun a : (List Int) => t_law a) r_law h
/-- a number within the bounds -/
def InB (v : Int) : Prop := -1000000000000000000 ≤ v ∧ v ≤ 1000000000000000000
/-! ### the drawn numbers -/
theorem sq_le {k n : Int} (h : 0 ≤ k) (h1 : k ≤ n) : 0 ≤ k * k ∧ k * k ≤ n * n := ⟨Int.mul_nonneg h h, Int.mul_le_mul h1 h1 h (by omega)⟩
theorem mixed_ok {cell k : Int} (hc : Sm 1048700 cell) (h0 : 0 ≤ k) (h1 : k ≤ 1000000) : Ok (t_l_mixed cell k) fun u => 0 ≤ u ∧ u < 2147483629 := by
  unfold t_l_mixed
  have q := sq_le (show 0 ≤ k + 1 by omega) (show k + 1 ≤ 1000001 by omega)
  rw [mulR_l hc (by decide) (by decide) (by decide), mulR_s (by omega) (by omega) (by omega) (by omega)]
  simp only [Res.bind_ok]
  rw [mulR_s (by omega) (by omega) (by omega) (by omega)]
  simp only [Res.bind_ok]
  have r0 := Int.emod_nonneg (cell * 48271 + (k + 1) * (k + 1) * 69621) (b := 2147483647) (by decide)
  have r1 := Int.emod_lt_of_pos (cell * 48271 + (k + 1) * (k + 1) * 69621) (b := 2147483647) (by decide)
  generalize (cell * 48271 + (k + 1) * (k + 1) * 69621) % 2147483647 = u at *
  rw [mulR_s (by omega) (by omega) (by omega) (by omega)]
  exact ⟨_, rfl, Int.emod_nonneg _ (by decide), Int.emod_lt_of_pos _ (by decide)⟩
theorem number_any (n : Int) : Ok (t_l_number n) InB := by
  unfold t_l_number
  refine Ok.ite (fun _ => ⟨_, rfl, by unfold InB; omega⟩) fun _ => Ok.ite (fun _ => ?_) fun _ => ?_
  · refine Ok.getL (by simp; omega) (by simp; omega) fun a ha => ?_
    simp at ha
    unfold InB
    omega
  · rw [mulR_s (by decide) (by decide) (by decide) (by decide)]
    simp only [Res.bind_ok]
    rw [modR_pos (by decide)]
    refine ⟨_, rfl, ?_⟩
    unfold InB
    omega
/-! ### drawn rows -/
def RowOk (W : Nat) (r : List Int) : Prop := r.length = W ∧ ∀ x ∈ r, InB x
def HpOk (W : Nat) (T : List (List Int)) : Prop := ∀ r ∈ T, RowOk W r
theorem a2_mem {α β : Type} {P : α → β → Prop} : ∀ {l : List α} {bs : List β}, A2 P l bs → ∀ b ∈ bs, ∃ a, a ∈ l ∧ P a b
  | [], _, h, b, hb => by rw [show _ = [] from h] at hb; cases hb
  | a :: l, _, ⟨d, r, rfl, h1, h2⟩, b, hb => by
    rcases List.mem_cons.mp hb with rfl | hb
    · exact ⟨a, List.mem_cons_self, h1⟩
    · obtain ⟨x, hx, hp⟩ := a2_mem h2 b hb
      exact ⟨x, List.mem_cons_of_mem _ hx, hp⟩
theorem row_ok {cell : Int} {W : Nat} (hc : Sm 1048600 cell) (hW : W ≤ 1000) : Ok (t_l_row cell W) (RowOk W) := by
  unfold t_l_row
  obtain ⟨n, en, _⟩ := mixed_ok (k := 9) (hc.mono (show 1048600 ≤ 1048700 by decide)) (by decide) (by decide)
  rw [en]
  simp only [Res.bind_ok]
  obtain ⟨c, ec, hcc⟩ : ∃ c, (if decide (n % 2 = 0) = true then Res.ok (cell % 5) else Res.ok cell) = .ok c ∧ Sm 1048600 c := by
    by_cases h : n % 2 = 0
    · rw [decide_eq_true h, if_pos rfl]
      exact ⟨_, rfl, (sm64 (by omega) (by omega)).mono (by decide)⟩
    · rw [decide_eq_false h, if_neg Bool.false_ne_true]
      exact ⟨_, rfl, hc⟩
  rw [ec]
  simp only [Res.bind_ok]
  rw [rng1_ok (by omega) (by omega), Res.bind_ok]
  refine Ok.bind (P := RowOk W) ((Ok.forA (P := fun _ x => InB x) (s := []) (by rw [rangeI_len]; simp; omega) fun j hj s hs => ?_).imp ?_) fun r hr => ⟨r, rfl, hr⟩
  · have hj := rangeI_mem.mp hj
    rw [mulR_s (by omega) (by omega) (by omega) (by omega)]
    simp only [Res.bind_ok]
    obtain ⟨u, eu, hu⟩ := mixed_ok (k := 10 + 3 * j) (hcc.mono (show 1048600 ≤ 1048700 by decide)) (by omega) (by omega)
    rw [eu, Res.bind_ok]
    by_cases h : u / 3 % 7 = 0
    · rw [if_pos h, mulR_l hcc (by decide) (by omega) (by omega)]
      simp only [Res.bind_ok]
      obtain ⟨v, ev, hv⟩ := number_any (c * (j + 1) + j)
      rw [ev]
      simp only [Res.bind_ok]
      rw [appR_ok hs]
      exact ⟨_, rfl, v, hv, rfl⟩
    · rw [if_neg h]
      simp only [Res.bind_ok]
      rw [appR_ok hs]
      exact ⟨_, rfl, u % 3 - 1, by unfold InB; omega, rfl⟩
  · rintro _ ⟨bs, hb, rfl⟩
    refine ⟨by simp [hb.length, rangeI_len], fun x hx => ?_⟩
    obtain ⟨_, _, h⟩ := a2_mem hb x (by simpa using hx)
    exact h
theorem rows_ok {cells : List Int} {W : Nat} (hl : cells.length ≤ 1000) (hc : ∀ z ∈ cells, Sm 1048600 z) (hW : W ≤ 1000) : Ok (t_l_rows cells W) fun T => T.length = cells.length ∧ HpOk W T := by
  unfold t_l_rows
  refine Ok.compR (P := fun _ r => RowOk W r) (by omega) (fun z hz => row_ok (hc z hz) hW) fun T h => ⟨h.length, fun r hr => ?_⟩
  obtain ⟨_, _, q⟩ := a2_mem h r hr
  exact q
theorem cut_mem {α : Type} {l : List α} {lo hi : Option Int} {a : α} (h : a ∈ cutL l lo hi) : a ∈ l := by unfold cutL at h; exact List.mem_of_mem_drop (List.mem_of_mem_take h)
theorem cut_le {α : Type} {l : List α} {lo hi : Option Int} : (cutL l lo hi).length ≤ l.length := by unfold cutL; rw [List.length_take, List.length_drop]; omega
theorem forR_cons {α S : Type} (a : α) (l : List α) (s : S) (f : α → S → Res S) : DL.forR (a :: l) s f = (f a s).bind fun s' => DL.forR l s' f := rfl
/-! ### sums by key -/
section
variable {V : Type} {add : V → V → V} {z : V}
def totV (add : V → V → V) (z : V) (ps : List (List Int × V)) (k : List Int) : V := ps.foldl (fun t p => if p.1 = k then add t p.2 else t) z
theorem totV_snoc (ps : List (List Int × V)) (p : List Int × V) (k : List Int) : totV add z (ps ++ [p]) k = if p.1 = k then add (totV add z ps k) p.2 else totV add z ps k := by
  unfold totV
  rw [List.foldl_append]
  rfl
theorem totV_none {ps : List (List Int × V)} {k : List Int} (h : k ∉ ps.map (·.1)) : totV add z ps k = z := by
  unfold totV
  have gen : ∀ (ps : List (List Int × V)) (t : V), k ∉ ps.map (·.1) → ps.foldl (fun t p => if p.1 = k then add t p.2 else t) t = t := by
    intro ps
    induction ps with
    | nil => intro t _; rfl
    | cons p ps ih =>
      intro t h
      rw [List.map_cons, List.mem_cons] at h
      rw [List.foldl_cons, if_neg (fun e => h (.inl e.symm))]
      exact ih t fun e => h (.inr e)
  exact gen ps z h
structure SumV (add : V → V → V) (z : V) (m ps : List (List Int × V)) : Prop where
  nd : (m.map (·.1)).Nodup
  ks : ∀ k, k ∈ m.map (·.1) ↔ k ∈ ps.map (·.1)
  gt : ∀ k, k ∈ ps.map (·.1) → getG m k = some (totV add z ps k)
  ln : m.length ≤ ps.length
theorem SumV.nil : SumV add z [] [] := ⟨List.nodup_nil, fun k => Iff.rfl, fun k h => absurd h List.not_mem_nil, Nat.le_refl _⟩
theorem SumV.at {m ps : List (List Int × V)} (S : SumV add z m ps) (k : List Int) : (getG m k).getD z = totV add z ps k := by
  by_cases h : k ∈ ps.map (·.1)
  · rw [S.gt _ h]; rfl
  · rw [get_noneG (fun e => h ((S.ks _).mp e)), totV_none h]; rfl
theorem SumV.step {m ps : List (List Int × V)} (S : SumV add z m ps) (p : List Int × V) : SumV add z (putG m p.1 (add (totV add z ps p.1) p.2)) (ps ++ [p]) := by
  have hk := put_keysG m p.1 (add (totV add z ps p.1) p.2)
  refine ⟨?_, fun k => ?_, fun k h => ?_, ?_⟩
  · rw [hk]
    split
    · exact S.nd
    · rename_i h
      rw [List.nodup_append]
      refine ⟨S.nd, by simp, ?_⟩
      intro a ha b hb
      rw [List.mem_singleton] at hb
      subst hb
      intro e
      subst e
      exact h ha
  · rw [hk, List.map_append, List.mem_append, ← S.ks k]
    split
    · rename_i h
      constructor
      · exact .inl
      · rintro (q | q)
        · exact q
        · rw [show k = p.1 by simpa using q]; exact h
    · rw [List.mem_append]; rfl
  · rw [totV_snoc]
    by_cases e : p.1 = k
    · subst e
      rw [put_get_selfG, if_pos rfl]
    · rw [put_get_neG _ (Ne.symm e), if_neg e]
      rw [List.map_append, List.mem_append] at h
      rcases h with q | q
      · exact S.gt _ q
      · exact absurd (by simpa using q : k = p.1).symm e
  · have := congrArg List.length hk
    rw [List.length_map] at this
    rw [this, List.length_append]
    have l := S.ln
    split
    · rw [List.length_map]; simp; omega
    · rw [List.length_append, List.length_map]; simp; omega
/-- the sums, keys in order, those that keep says -/
def outV (add : V → V → V) (z : V) (keep : V → Bool) (K : List (List Int)) (ps : List (List Int × V)) : List (List Int × V) := ((sortK K).filter fun k => keep (totV add z ps k)).map fun k => (k, totV add z ps k)
theorem keys_sort {K K' : List (List Int)} (h : K.Nodup) (h' : K'.Nodup) (e : ∀ k, k ∈ K ↔ k ∈ K') : sortK K = sortK K' := sortK_ext ((List.perm_ext_iff_of_nodup h h').mpr e)
/-- the dict's walk in order -/
theorem SumV.out {m ps : List (List Int × V)} (S : SumV add z m ps) (hl : ps.length ≤ 1000000) {keep : V → Bool} {c : List Int → Res Bool} {f : List Int → Res (List Int × V)} (hc : ∀ k v, getG m k = some v → c k = .ok (keep v)) (hf : ∀ k v, getG m k = some v → f k = .ok (k, v)) :
    (sortKR (m.map (·.1))).bind (fun l => DL.compF l c f) = .ok (outV add z keep (m.map (·.1)) ps) := by
  have l := S.ln
  rw [sortKR_ok (by rw [List.length_map]; omega), Res.bind_ok]
  have mem : ∀ k ∈ sortK (m.map (·.1)), getG m k = some (totV add z ps k) := fun k hk => S.gt k ((S.ks k).mp (sortK_mem.mp hk))
  exact compF_fn (by rw [sortK_len, List.length_map]; omega) (fun k hk => hc k _ (mem k hk)) (fun k hk _ => hf k _ (mem k hk))
end
/-! ### how often each row stands there -/
def ones (L : List (List Int)) : List (List Int × Int) := L.map fun r => (r, 1)
theorem ones_keys (L : List (List Int)) : (ones L).map (·.1) = L := by unfold ones; rw [List.map_map]; exact List.map_id _
theorem times_loop : ∀ (r d : List (List Int)) (m : List (List Int × Int)), SumV (· + ·) 0 m (ones d) → d.length + r.length ≤ 1000000 →
    Ok (DL.forR r m (fun row s2 => (putDR s2 row (((getG s2 row).getD (0 : Int)) + (1 : Int))).bind fun t => Res.ok t)) fun m' => SumV (· + ·) 0 m' (ones (d ++ r))
  | [], d, m, S, _ => by rw [List.append_nil]; exact ⟨m, rfl, S⟩
  | p :: r, d, m, S, h => by
    rw [forR_cons]
    have l := S.ln
    unfold ones at l
    rw [List.length_map] at l
    rw [List.length_cons] at h
    have e : putDR m p (((getG m p).getD (0 : Int)) + 1) = .ok (putG m p (totV (· + ·) 0 (ones d) p + 1)) := by
      rw [S.at p]
      exact if_pos (by rw [PySem.sizeLine_eq]; omega)
    rw [e, Res.bind_ok, Res.bind_ok]
    have S' := S.step (p, 1)
    rw [show ones d ++ [(p, 1)] = ones (d ++ [p]) by unfold ones; rw [List.map_append]; rfl] at S'
    have := times_loop r (d ++ [p]) _ S' (by rw [List.length_append, List.length_singleton]; omega)
    rwa [List.append_assoc, List.singleton_append] at this
theorem times_ok {L : List (List Int)} (h : L.length ≤ 1000000) : Ok (t_l_times L) fun m => SumV (· + ·) 0 m (ones L) := by
  obtain ⟨m, e, S⟩ := times_loop L [] [] SumV.nil (by simpa using h)
  rw [List.nil_append] at S
  unfold t_l_times
  rw [Res.bind_ok, e]
  exact ⟨m, rfl, S⟩
theorem tot_count (L : List (List Int)) (k : List Int) : totV (· + ·) 0 (ones L) k = (L.count k : Nat) := by
  unfold totV ones
  have gen : ∀ (L : List (List Int)) (t : Int), (L.map fun r => (r, (1 : Int))).foldl (fun t p => if p.1 = k then t + p.2 else t) t = t + (L.count k : Nat) := by
    intro L
    induction L with
    | nil => intro t; simp
    | cons r L ih =>
      intro t
      rw [List.map_cons, List.foldl_cons, ih, List.count_cons]
      by_cases h : r = k
      · subst h; simp; omega
      · simp [h]
  have := gen L 0
  rwa [Int.zero_add] at this
theorem get_mem : ∀ {m : List (List Int × Int)}, (m.map (·.1)).Nodup → ∀ p ∈ m, getG m p.1 = some p.2
  | q :: m, nd, p, h => by
    rw [List.map_cons, List.nodup_cons] at nd
    unfold getG
    rw [List.find?_cons]
    rcases List.mem_cons.mp h with e | h'
    · subst e; simp
    · have ne : ¬ q.1 = p.1 := fun z => nd.1 (z ▸ List.mem_map.mpr ⟨p, h', rfl⟩)
      rw [decide_eq_false ne]
      exact get_mem nd.2 p h'
theorem same_times {m m' : List (List Int × Int)} {L L' : List (List Int)} (S : SumV (· + ·) 0 m (ones L)) (S' : SumV (· + ·) 0 m' (ones L')) (p : L.Perm L') : sameM m m' = true := by
  have ks : ∀ k, k ∈ m.map (·.1) ↔ k ∈ m'.map (·.1) := fun k => by
    rw [S.ks k, S'.ks k, ones_keys, ones_keys]
    exact p.mem_iff
  have pm := (List.perm_ext_iff_of_nodup S.nd S'.nd).mpr ks
  have ln := pm.length_eq
  rw [List.length_map, List.length_map] at ln
  unfold sameM
  rw [decide_eq_true ln, Bool.true_and, List.all_eq_true]
  intro q hq
  rw [decide_eq_true_eq]
  have k1 : q.1 ∈ m.map (·.1) := List.mem_map.mpr ⟨q, hq, rfl⟩
  have g1 := get_mem S.nd q hq
  rw [S.gt q.1 ((S.ks _).mp k1)] at g1
  rw [S'.gt q.1 ((S'.ks _).mp ((ks _).mp k1)), ← g1, tot_count, tot_count, p.count_eq]
/-! ### k13 -/
theorem isheap_ok {L : List (List Int)} {W : Nat} (hl : L.length ≤ 1000) (h : HpOk W L) : t_l_is_heap (sortK L) L W = .ok true := by
  obtain ⟨m, e, S⟩ := times_ok (L := sortK L) (by rw [sortK_len]; omega)
  obtain ⟨m', e', S'⟩ := times_ok (L := L) (by omega)
  have sm := same_times S S' (sortK_perm L)
  unfold t_l_is_heap
  rw [if_neg (by simp), e, Res.bind_ok, e', Res.bind_ok, Res.bind_ok, sm, if_neg (by decide)]
  rw [rng1_ok (by omega) (by rw [sortK_len]; omega), Res.bind_ok, forX_unit, DL.thenX]
  · rfl
  intro k hk
  rw [rangeI_mem, sortK_len] at hk
  obtain ⟨i, rfl⟩ := Int.eq_ofNat_of_zero_le hk.1
  have il : i < (sortK L).length := by rw [sortK_len]; omega
  obtain ⟨r, hr⟩ : ∃ r, (sortK L)[i]? = some r := ⟨_, List.getElem?_eq_getElem il⟩
  have rw1 := (h r (sortK_mem.mp (List.mem_of_getElem? hr))).1
  rw [getL_nat hr]
  simp only [Res.bind_ok]
  have e1 : decide (((r.length : Nat) : Int) ≠ (W : Int)) = false := decide_eq_false (by omega)
  rw [e1, if_neg (by decide), if_neg (by decide)]
  have cmp : (if (0 : Int) < (i : Int) then ((getL (sortK L) ((i : Int) - (1 : Int))).bind fun a8 => Res.ok (decide (lexB r a8 = true))) else .ok false) = .ok false := by
    by_cases h0 : (0 : Int) < (i : Int)
    · rw [if_pos h0]
      obtain ⟨j, rfl⟩ : ∃ j, i = j + 1 := ⟨i - 1, by omega⟩
      have jl : j < (sortK L).length := by omega
      rw [show ((j + 1 : Nat) : Int) - 1 = (j : Int) by omega, getL_nat (List.getElem?_eq_getElem jl), Res.bind_ok]
      have up := List.pairwise_iff_getElem.mp (sortK_up L) j (j + 1) jl il (by omega)
      rw [List.getElem?_eq_getElem il] at hr
      cases hr
      unfold leB at up
      have : lexB (sortK L)[j + 1] (sortK L)[j] = false := by simpa using up
      rw [this]
      rfl
    · rw [if_neg h0]
  rw [cmp, Res.bind_ok, if_neg (by decide), forX_unit fun _ _ => by simp]
  rfl
theorem refused_ok {L : List (List Int)} (h : 40 < L.length) : t_l_refused L = .ok true := by
  unfold t_l_refused t_table_of
  rw [if_pos (by omega)]
  rw [show ((Res.exc "TooMany" [] : Res (List (List Int))).bind fun u1 => Res.ok false) = .exc "TooMany" [] from rfl, hitR_exc (by decide)]
  have o : anyO [i_NoShare "TooMany", i_NoSpread "TooMany", i_NoAnswer "TooMany", i_NoDie "TooMany", i_PastPurse "TooMany", i_Unlike "TooMany", i_BadText "TooMany", i_BadProgram "TooMany"] = some false := by decide
  have b : i_BlurError "TooMany" = some true := by decide
  have v : i_ValueError "TooMany" = some true := by decide
  rw [o, b, v]
  rfl
theorem table_ok {L : List (List Int)} (h : L.length ≤ 40) : t_table_of L = .ok (sortK L) := by
  unfold t_table_of
  rw [if_neg (by omega), sortKR_ok (by omega)]
theorem cut40 {α : Type} (s : List α) : (cutL s none (some 40)) = s.take 40 := by
  unfold cutL HT.sIx
  simp
theorem law_typed (s : List Int) (hl : s.length ≤ 63) (hb : ∀ z ∈ s, Sm 1048576 z) : t_law s = .ok true := by
  unfold t_law
  rw [catR_ok (by simp only [List.length_singleton]; omega), Res.bind_ok]
  obtain ⟨c, ec, _⟩ := Ok.getL (l := s ++ [0]) (i := 0) (P := fun _ => True) (by omega) (by rw [List.length_append, List.length_singleton]; omega) fun _ _ => trivial
  obtain ⟨W, hW, W4⟩ : ∃ W : Nat, 1 + c % 4 = (W : Int) ∧ W ≤ 4 := ⟨(1 + c % 4).toNat, by omega, by omega⟩
  rw [ec]
  simp only [Res.bind_ok, hW]
  obtain ⟨L, eL, hL, okL⟩ := rows_ok (cells := cutL s (some 1) (some 61)) (W := W) (Nat.le_trans cut_le (by omega)) (fun z hz => (hb z (cut_mem hz)).mono (by decide)) (by omega)
  have ll : L.length ≤ 63 := by rw [hL]; exact Nat.le_trans cut_le hl
  rw [eL, Res.bind_ok]
  by_cases h : 40 < L.length
  · rw [if_pos (by omega), refused_ok h, Res.bind_ok, if_pos rfl, Res.bind_ok, if_pos rfl, cut40, table_ok (by rw [List.length_take]; omega), Res.bind_ok]
    exact isheap_ok (by rw [List.length_take]; omega) fun r hr => okL r (List.mem_of_mem_take hr)
  · rw [if_neg (by omega), table_ok (by omega), Res.bind_ok, if_neg (by simp), isheap_ok (by omega) okL, Res.bind_ok, Res.bind_ok, if_neg (by decide), Res.bind_ok, Res.bind_ok, decide_eq_true rfl, if_pos rfl, table_ok (by rw [List.length_reverse]; omega), Res.bind_ok, sortK_ext (List.reverse_perm L), decide_eq_true rfl]
theorem law_holds (ns : List Int) (hl : ns.length ≤ 63) (hb : ∀ z ∈ ns, intBits z ≤ 1048576) : F_law [.lst (ns.map D.int)] = .ok (.bl true) := by
  obtain ⟨d, h1, h2⟩ := (r_law ns _ ⟨_, rfl, _, rfl, A2.fn.mpr rfl⟩).get (law_typed ns hl fun z hz => sm_bits (hb z hz))
  rw [h1, show d = _ from h2]

end DLaw
namespace DLaw
open PySem PySem.Spec PyProof.Rows L2
open DL
abbrev N_l_mixed : List Str := ["_law_cell", "_law_k", "_law_m"]
theorem sc_l_mixed : FnScope N_l_mixed ["_law_cell", "_law_k"] (defScope s_l_mixed) := ⟨rfl, rfl, rfl, by decide +kernel, rfl, by decide +kernel, by decide +kernel⟩
theorem ok_l_mixed {P : Program} {w : World} {K : PySem.W.Frag} {mg : Str → Option Value} {base : Heap} {f : Addr} {fd : FuncData} (T : Txt K mg) (F : Fun K "_law_mixed" "_law_mixed" s_l_mixed f fd)  :
    FnOk P w K mg base (L2.CX P w) 1 f fd ["_law_cell", "_law_k"] (spD K mg 2 F_l_mixed) :=
  fnD (N := N_l_mixed) (k := 0) (fb := b_l_mixed) F sc_l_mixed fun cdv A outer s H G E hr tk hp =>
    by exact (dss_cons (ds_set (al := []) (i := 2) sc_l_mixed.nd rfl (by first | exact .inl rfl | exact .inr rfl) (de_bin od_mod (dr (de_bin od_add (dr (de_bin od_mul (dr (de_vs (i := 0) rfl (by first | exact .inl rfl | exact .inr (.inl rfl) | exact .inr (.inr rfl)))) (dr de_int))) (dr (de_bin od_mul (dr (de_bin od_mul (dr (de_bin od_add (dr (de_vs (i := 1) rfl (by first | exact .inl rfl | exact .inr (.inl rfl) | exact .inr (.inr rfl)))) (dr de_int))) (dr (de_bin od_add (dr (de_vs (i := 1) rfl (by first | exact .inl rfl | exact .inr (.inl rfl) | exact .inr (.inr rfl)))) (dr de_int))))) (dr de_int))))) (dr de_int))) (dss_cons (ds_ret (al := []) (de_bin od_mod (dr (de_bin od_mul (dr (de_vs (i := 2) rfl (by first | exact .inl rfl | exact .inr (.inl rfl) | exact .inr (.inr rfl)))) (dr (de_vs (i := 2) rfl (by first | exact .inl rfl | exact .inr (.inl rfl) | exact .inr (.inr rfl)))))) (dr de_int))) dss_nil))
abbrev N_l_number : List Str := ["_law_n", "_law_way"]
theorem sc_l_number : FnScope N_l_number ["_law_n"] (defScope s_l_number) := ⟨rfl, rfl, rfl, by decide +kernel, rfl, by decide +kernel, by decide +kernel⟩
theorem ok_l_number {P : Program} {w : World} {K : PySem.W.Frag} {mg : Str → Option Value} {base : Heap} {f : Addr} {fd : FuncData} (T : Txt K mg) (F : Fun K "_law_number" "_law_number" s_l_number f fd)  :
    FnOk P w K mg base (L2.CX P w) 1 f fd ["_law_n"] (spD K mg 1 F_l_number) :=
  fnD (N := N_l_number) (k := 0) (fb := b_l_number) F sc_l_number fun cdv A outer s H G E hr tk hp =>
    by have hu := Room.hu hr; exact (dss_cons (ds_set (al := []) (i := 1) sc_l_number.nd rfl (by first | exact .inl rfl | exact .inr rfl) (de_bin od_mod (dr (de_vs (i := 0) rfl (by first | exact .inl rfl | exact .inr (.inl rfl) | exact .inr (.inr rfl)))) (dr de_int))) (dss_cons (ds_if (al := []) (dt_cmp (od_lt hu) (dr (de_vs (i := 1) rfl (by first | exact .inl rfl | exact .inr (.inl rfl) | exact .inr (.inr rfl)))) (dr de_int) (nomark _)) (dss_cons (ds_ret (al := []) (de_bin od_sub (dr (de_bin od_mod (dr (de_bin od_div (dr (de_vs (i := 0) rfl (by first | exact .inl rfl | exact .inr (.inl rfl) | exact .inr (.inr rfl)))) (dr de_int))) (dr de_int))) (dr de_int))) dss_nil) dss_nil) (dss_cons (ds_if (al := []) (dt_cmp (od_eq hu) (dr (de_vs (i := 1) rfl (by first | exact .inl rfl | exact .inr (.inl rfl) | exact .inr (.inr rfl)))) (dr de_int) (nomark _)) (dss_cons (ds_ret (al := []) (de_ixA hr.hu1 (dr (de_of (df_lst (da_cons (de_bin od_pow (dr de_int) (dr de_int)) (da_cons (de_neg (de_bin od_pow (dr de_int) (dr de_int))) (da_cons (de_bin od_sub (dr (de_bin od_pow (dr de_int) (dr de_int))) (dr de_int)) (da_cons (de_bin od_sub (dr de_int) (dr (de_bin od_pow (dr de_int) (dr de_int)))) (da_cons (de_bin od_pow (dr de_int) (dr de_int)) (da_cons (de_neg (de_bin od_pow (dr de_int) (dr de_int))) da_nil)))))) (len_cons (len_cons (len_cons (len_cons (len_cons (len_cons len_nil)))))) (by rw [PySem.sizeLine_eq]; decide)))) (de_bin od_mod (dr (de_bin od_div (dr (de_vs (i := 0) rfl (by first | exact .inl rfl | exact .inr (.inl rfl) | exact .inr (.inr rfl)))) (dr de_int))) (dr de_int)) (fun _ _ => rfl) (fun _ _ => rfl))) dss_nil) dss_nil) (dss_cons (ds_ret (al := []) (de_bin od_sub (dr (de_bin od_mod (dr (de_bin od_div (dr (de_vs (i := 0) rfl (by first | exact .inl rfl | exact .inr (.inl rfl) | exact .inr (.inr rfl)))) (dr de_int))) (dr (de_bin od_add (dr (de_bin od_mul (dr de_int) (dr (de_bin od_pow (dr de_int) (dr de_int))))) (dr de_int))))) (dr (de_bin od_pow (dr de_int) (dr de_int))))) dss_nil))))
abbrev N_l_row : List Str := ["_law_cell", "_law_width", "_law_row_here", "_law_k", "_law_n", "_law_one"]
theorem sc_l_row : FnScope N_l_row ["_law_cell", "_law_width"] (defScope s_l_row) := ⟨rfl, rfl, rfl, by decide +kernel, rfl, by decide +kernel, by decide +kernel⟩
theorem ok_l_row {P : Program} {w : World} {K : PySem.W.Frag} {mg : Str → Option Value} {base : Heap} {f : Addr} {fd : FuncData} (T : Txt K mg) (F : Fun K "_law_row" "_law_row" s_l_row f fd) (c_l_mixed : CallOk P w K mg base 1 "_law_mixed" ["_law_cell", "_law_k"] F_l_mixed) (c_l_number : CallOk P w K mg base 1 "_law_number" ["_law_n"] F_l_number) :
    FnOk P w K mg base (L2.CX P w) 2 f fd ["_law_cell", "_law_width"] (spD K mg 2 F_l_row) :=
  fnD (N := N_l_row) (k := 1) (fb := b_l_row) F sc_l_row fun cdv A outer s H G E hr tk hp =>
    by have hu := Room.hu hr; exact (dss_cons (ds_if (al := []) (dt_cmp (od_eq hu) (dr (de_bin od_mod (dr (de_callE c_l_mixed hr rfl tk (da_cons (de_vs (i := 0) rfl (by first | exact .inl rfl | exact .inr (.inl rfl) | exact .inr (.inr rfl))) (da_cons de_int da_nil)) (leq_cons (leq_cons leq_nil)))) (dr de_int))) (dr de_int) (nomark _)) (dss_cons (ds_set (al := []) (i := 0) sc_l_row.nd rfl (by first | exact .inl rfl | exact .inr rfl) (de_bin od_mod (dr (de_vs (i := 0) rfl (by first | exact .inl rfl | exact .inr (.inl rfl) | exact .inr (.inr rfl)))) (dr de_int))) dss_nil) dss_nil) (dss_cons (ds_setF (al := []) (i := 2) sc_l_row.nd rfl (by first | exact .inl rfl | exact .inr rfl) (df_lst da_nil len_nil (by rw [PySem.sizeLine_eq]; decide))) (dss_cons (ds_for (al := []) hp rfl (di_range1 rfl T.z_range (de_vs (i := 1) rfl (by first | exact .inl rfl | exact .inr (.inl rfl) | exact .inr (.inr rfl)))) (dg_name (i := 3) sc_l_row.nd rfl (by first | exact .inl rfl | exact .inr rfl)) (fun _ => (dss_cons (ds_set (al := []) (i := 4) sc_l_row.nd rfl (by first | exact .inl rfl | exact .inr rfl) (de_callE c_l_mixed hr rfl tk (da_cons (de_vs (i := 0) rfl (by first | exact .inl rfl | exact .inr (.inl rfl) | exact .inr (.inr rfl))) (da_cons (de_bin od_add (dr de_int) (dr (de_bin od_mul (dr de_int) (dr (de_vs (i := 3) rfl (by first | exact .inl rfl | exact .inr (.inl rfl) | exact .inr (.inr rfl))))))) da_nil)) (leq_cons (leq_cons leq_nil)))) (dss_cons (ds_set (al := []) (i := 5) sc_l_row.nd rfl (by first | exact .inl rfl | exact .inr rfl) (de_bin od_sub (dr (de_bin od_mod (dr (de_vs (i := 4) rfl (by first | exact .inl rfl | exact .inr (.inl rfl) | exact .inr (.inr rfl)))) (dr de_int))) (dr de_int))) (dss_cons (ds_if (al := []) (dt_cmp (od_eq hu) (dr (de_bin od_mod (dr (de_bin od_div (dr (de_vs (i := 4) rfl (by first | exact .inl rfl | exact .inr (.inl rfl) | exact .inr (.inr rfl)))) (dr de_int))) (dr de_int))) (dr de_int) (nomark _)) (dss_cons (ds_set (al := []) (i := 5) sc_l_row.nd rfl (by first | exact .inl rfl | exact .inr rfl) (de_callE c_l_number hr rfl tk (da_cons (de_bin od_add (dr (de_bin od_mul (dr (de_vs (i := 0) rfl (by first | exact .inl rfl | exact .inr (.inl rfl) | exact .inr (.inr rfl)))) (dr (de_bin od_add (dr (de_vs (i := 3) rfl (by first | exact .inl rfl | exact .inr (.inl rfl) | exact .inr (.inr rfl)))) (dr de_int))))) (dr (de_vs (i := 3) rfl (by first | exact .inl rfl | exact .inr (.inl rfl) | exact .inr (.inr rfl))))) da_nil) (leq_cons leq_nil))) dss_nil) dss_nil) (dss_cons (ds_mut (al := []) (i := 2) PySem.F.slot_list_append PySem.F.type_list_append mut_append rfl (by first | exact .inl rfl | exact .inr (.inl rfl) | exact .inr (.inr rfl)) (da_cons (de_vs (i := 5) rfl (by first | exact .inl rfl | exact .inr (.inl rfl) | exact .inr (.inr rfl))) da_nil)) dss_nil)))))) (dss_cons (ds_ret (al := []) (de_t1 c1_tuple rfl T.z_tuple rfl (dr_var (i := 2) rfl (by first | exact .inl rfl | exact .inr (.inl rfl) | exact .inr (.inr rfl))))) dss_nil))))
abbrev N_l_rows : List Str := ["_law_cells", "_law_width", "_law_cell"]
theorem sc_l_rows : FnScope N_l_rows ["_law_cells", "_law_width"] (defScope s_l_rows) := ⟨rfl, rfl, rfl, by decide +kernel, rfl, by decide +kernel, by decide +kernel⟩
theorem ok_l_rows {P : Program} {w : World} {K : PySem.W.Frag} {mg : Str → Option Value} {base : Heap} {f : Addr} {fd : FuncData} (T : Txt K mg) (F : Fun K "_law_rows" "_law_rows" s_l_rows f fd) (c_l_row : CallOk P w K mg base 2 "_law_row" ["_law_cell", "_law_width"] F_l_row) :
    FnOk P w K mg base (L2.CX P w) 3 f fd ["_law_cells", "_law_width"] (spD K mg 2 F_l_rows) :=
  fnD (N := N_l_rows) (k := 2) (fb := b_l_rows) F sc_l_rows fun cdv A outer s H G E hr tk hp =>
    by exact (dss_cons (ds_ret (al := []) (de_of (df_comp (own := [("_law_cell", 2)]) rfl sc_l_rows.nd (dir_of (di_seq (de_vs (i := 0) rfl (by first | exact .inl rfl | exact .inr (.inl rfl) | exact .inr (.inr rfl))))) (blkOk_by (N := N_l_rows) (sc := defScope s_l_rows) (by decide +kernel)) (fun _ _ _ _ _ => (dg_name (i := 2) sc_l_rows.nd rfl (by first | exact .inl rfl | exact .inr rfl))) (fun _ _ _ _ _ => dts_nil) (fun _ _ _ _ _ => (de_callE c_l_row hr rfl takes0 (da_cons (de_vs (i := 2) rfl (by first | exact .inl rfl | exact .inr (.inl rfl) | exact .inr (.inr rfl))) (da_cons (de_vs (i := 1) rfl (by first | exact .inl rfl | exact .inr (.inl rfl) | exact .inr (.inr rfl))) da_nil)) (leq_cons (leq_cons leq_nil)))) (by decide)))) dss_nil)
abbrev N_table_of : List Str := ["rows"]
theorem sc_table_of : FnScope N_table_of ["rows"] (defScope s_table_of) := ⟨rfl, rfl, rfl, by decide +kernel, rfl, by decide +kernel, by decide +kernel⟩
theorem ok_table_of {P : Program} {w : World} {K : PySem.W.Frag} {mg : Str → Option Value} {base : Heap} {f : Addr} {fd : FuncData} (T : Txt K mg) (F : Fun K "table_of" "table_of" s_table_of f fd)  :
    FnOk P w K mg base (L2.CX P w) 1 f fd ["rows"] (spD K mg 1 F_table_of) :=
  fnD (N := N_table_of) (k := 0) (fb := b_table_of) F sc_table_of fun cdv A outer s H G E hr tk hp =>
    by have hu := Room.hu hr; exact (dss_cons (ds_if (al := []) (dt_cmp (od_gt hu) (dr (de_b1 c1_len rfl T.z_len rfl (dr (de_vs (i := 0) rfl (by first | exact .inl rfl | exact .inr (.inl rfl) | exact .inr (.inr rfl)))))) (dr (de_con T.c_MOST_ROWS rfl)) (nomark _)) (dss_cons (ds_raise (c := "TooMany") T.x_TooMany rfl tk rfl) dss_nil) dss_nil) (dss_cons (ds_ret (al := []) (de_t1 c1_tuple rfl T.z_tuple rfl (dr (de_of (df_b1 (c1_sorted rfl hu) rfl T.z_sorted rfl (dr (de_vs (i := 0) rfl (by first | exact .inl rfl | exact .inr (.inl rfl) | exact .inr (.inr rfl))))))))) dss_nil))
abbrev N_l_refused : List Str := ["_law_rows_here", "_law_told", "e", "_law_other"]
theorem sc_l_refused : FnScope N_l_refused ["_law_rows_here"] (defScope s_l_refused) := ⟨rfl, rfl, rfl, by decide +kernel, rfl, by decide +kernel, by decide +kernel⟩
theorem ok_l_refused {P : Program} {w : World} {K : PySem.W.Frag} {mg : Str → Option Value} {base : Heap} {f : Addr} {fd : FuncData} (T : Txt K mg) (F : Fun K "_law_refused" "_law_refused" s_l_refused f fd) (c_table_of : CallOk P w K mg base 1 "table_of" ["rows"] F_table_of) :
    FnOk P w K mg base (L2.CX P w) 2 f fd ["_law_rows_here"] (spD K mg 1 F_l_refused) :=
  fnD (N := N_l_refused) (k := 1) (fb := b_l_refused) F sc_l_refused fun cdv A outer s H G E hr tk hp =>
    by have hu := Room.hu hr; obtain ⟨ci_NoShare, gi_NoShare, it_NoShare⟩ := T.j_NoShare; obtain ⟨ci_NoSpread, gi_NoSpread, it_NoSpread⟩ := T.j_NoSpread; obtain ⟨ci_NoAnswer, gi_NoAnswer, it_NoAnswer⟩ := T.j_NoAnswer; obtain ⟨ci_NoDie, gi_NoDie, it_NoDie⟩ := T.j_NoDie; obtain ⟨ci_PastPurse, gi_PastPurse, it_PastPurse⟩ := T.j_PastPurse; obtain ⟨ci_Unlike, gi_Unlike, it_Unlike⟩ := T.j_Unlike; obtain ⟨ci_BadText, gi_BadText, it_BadText⟩ := T.j_BadText; obtain ⟨ci_BadProgram, gi_BadProgram, it_BadProgram⟩ := T.j_BadProgram; obtain ⟨ci_BlurError, gi_BlurError, it_BlurError⟩ := T.j_BlurError; have j_ValueError := T.j_ValueError; obtain ⟨cc_TooMany, g_TooMany, cl_TooMany⟩ := T.q_TooMany; exact (dss_cons (ds_set (al := []) (i := 1) sc_l_refused.nd rfl (by first | exact .inl rfl | exact .inr rfl) de_bl) (dss_cons (ds_tryAs (i := 2) (h := h_TooMany) (fs := fun a k => (sSeq (sSet [] 3 (eIsE 2 a (anyO [i_NoShare k, i_NoSpread k, i_NoAnswer k, i_NoDie k, i_PastPurse k, i_Unlike k, i_BadText k, i_BadProgram k]))) (sSeq (sSet [] 1 (eAnd (eIsE 2 a (i_BlurError k)) (eAnd (eIsE 2 a (i_ValueError k)) (eNot (eVarS 3))))) sSkip))) rfl rfl sc_l_refused.nd rfl rfl ⟨rfl, by decide, .inl g_TooMany⟩ tk cl_TooMany (fun W pn xe tk _ => (dss_cons (ds_drop (al := []) (de_callE c_table_of hr rfl tk (da_cons (de_vs (i := 0) rfl (by first | exact .inl rfl | exact .inr (.inl rfl) | exact .inr (.inr rfl))) da_nil) (leq_cons leq_nil))) dss_nil)) (fun a oe cls pn k hz hf hm => (dss_cons (ds_set (al := []) (i := 3) sc_l_refused.nd rfl (by first | exact .inl rfl | exact .inr rfl) (de_isET (i := 2) it_NoShare (Tabs.cons it_NoSpread (Tabs.cons it_NoAnswer (Tabs.cons it_NoDie (Tabs.cons it_PastPurse (Tabs.cons it_Unlike (Tabs.cons it_BadText (Tabs.cons it_BadProgram Tabs.nil))))))) hm hz hf rfl (by first | exact .inl rfl | exact .inr (.inl rfl) | exact .inr (.inr rfl)) rfl T.z_isinstance rfl (by simp) (pa_cons (pe_glob rfl gi_NoShare (v := .ref ci_NoShare) rfl) (pa_cons (pe_glob rfl gi_NoSpread (v := .ref ci_NoSpread) rfl) (pa_cons (pe_glob rfl gi_NoAnswer (v := .ref ci_NoAnswer) rfl) (pa_cons (pe_glob rfl gi_NoDie (v := .ref ci_NoDie) rfl) (pa_cons (pe_glob rfl gi_PastPurse (v := .ref ci_PastPurse) rfl) (pa_cons (pe_glob rfl gi_Unlike (v := .ref ci_Unlike) rfl) (pa_cons (pe_glob rfl gi_BadText (v := .ref ci_BadText) rfl) (pa_cons (pe_glob rfl gi_BadProgram (v := .ref ci_BadProgram) rfl) pa_nil rfl) rfl) rfl) rfl) rfl) rfl) rfl) rfl))) (dss_cons (ds_set (al := []) (i := 1) sc_l_refused.nd rfl (by first | exact .inl rfl | exact .inr rfl) (de_and (de_isE (i := 2) it_BlurError hm hz hf rfl (by first | exact .inl rfl | exact .inr (.inl rfl) | exact .inr (.inr rfl)) rfl T.z_isinstance rfl (pe_glob rfl gi_BlurError (v := .ref ci_BlurError) rfl) (fun u hu => hu)) (de_and (de_isE (i := 2) j_ValueError hm hz hf rfl (by first | exact .inl rfl | exact .inr (.inl rfl) | exact .inr (.inr rfl)) rfl T.z_isinstance rfl (pe_bltn rfl T.z_ValueError rfl (v := .ty "ValueError") rfl) (fun u hu => hu)) (de_one (de_not (de_vs (i := 3) rfl (by first | exact .inl rfl | exact .inr (.inl rfl) | exact .inr (.inr rfl)))))))) dss_nil)))) (dss_cons (ds_ret (al := []) (de_vs (i := 1) rfl (by first | exact .inl rfl | exact .inr (.inl rfl) | exact .inr (.inr rfl)))) dss_nil)))
abbrev N_l_times : List Str := ["_law_rows_here", "_law_times_here", "_law_row_here"]
theorem sc_l_times : FnScope N_l_times ["_law_rows_here"] (defScope s_l_times) := ⟨rfl, rfl, rfl, by decide +kernel, rfl, by decide +kernel, by decide +kernel⟩
theorem ok_l_times {P : Program} {w : World} {K : PySem.W.Frag} {mg : Str → Option Value} {base : Heap} {f : Addr} {fd : FuncData} (T : Txt K mg) (F : Fun K "_law_times" "_law_times" s_l_times f fd)  :
    FnOk P w K mg base (L2.CX P w) 1 f fd ["_law_rows_here"] (spD K mg 1 F_l_times) :=
  fnD (N := N_l_times) (k := 0) (fb := b_l_times) F sc_l_times fun cdv A outer s H G E hr tk hp =>
    by exact (dss_cons (ds_setF (al := []) (i := 1) sc_l_times.nd rfl (by first | exact .inl rfl | exact .inr rfl) df_dnewT) (dss_cons (ds_for (al := []) hp rfl (di_seq (de_vs (i := 0) rfl (by first | exact .inl rfl | exact .inr (.inl rfl) | exact .inr (.inr rfl)))) (dg_name (i := 2) sc_l_times.nd rfl (by first | exact .inl rfl | exact .inr rfl)) (fun _ => (dss_cons (ds_putD (al := []) (i := 1) hr.hu1 rfl (by first | exact .inl rfl | exact .inr (.inl rfl) | exact .inr (.inr rfl)) (de_vs (i := 2) rfl (by first | exact .inl rfl | exact .inr (.inl rfl) | exact .inr (.inr rfl))) (de_bin od_add (dr (de_get2 hr.hu1 (dr_var (i := 1) rfl (by first | exact .inl rfl | exact .inr (.inl rfl) | exact .inr (.inr rfl))) (de_vs (i := 2) rfl (by first | exact .inl rfl | exact .inr (.inl rfl) | exact .inr (.inr rfl))) de_int ⟨rfl, rfl, rfl, rfl⟩)) (dr de_int))) dss_nil))) (dss_cons (ds_ret (al := [1]) (de_var (i := 1) rfl (by first | exact .inl rfl | exact .inr (.inl rfl) | exact .inr (.inr rfl)) (by decide))) dss_nil)))
abbrev N_l_is_heap : List Str := ["_law_found", "_law_due", "_law_width", "_law_k", "_law_one"]
theorem sc_l_is_heap : FnScope N_l_is_heap ["_law_found", "_law_due", "_law_width"] (defScope s_l_is_heap) := ⟨rfl, rfl, rfl, by decide +kernel, rfl, by decide +kernel, by decide +kernel⟩
theorem ok_l_is_heap {P : Program} {w : World} {K : PySem.W.Frag} {mg : Str → Option Value} {base : Heap} {f : Addr} {fd : FuncData} (T : Txt K mg) (F : Fun K "_law_is_heap" "_law_is_heap" s_l_is_heap f fd) (c_l_times : CallOk P w K mg base 1 "_law_times" ["_law_rows_here"] F_l_times) :
    FnOk P w K mg base (L2.CX P w) 2 f fd ["_law_found", "_law_due", "_law_width"] (spD K mg 3 F_l_is_heap) :=
  fnD (N := N_l_is_heap) (k := 1) (fb := b_l_is_heap) F sc_l_is_heap fun cdv A outer s H G E hr tk hp =>
    by have hu := Room.hu hr; exact (dss_cons (ds_if (al := []) (dt_w (dw_or (dt_not (dt_truth (dr (de_isi is_tup rfl T.z_isinstance rfl (dr (de_vs (i := 0) rfl (by first | exact .inl rfl | exact .inr (.inl rfl) | exact .inr (.inr rfl)))) rfl T.z_tuple rfl)) (fun _ => rfl))) (dw_or1 (dt_cmp (od_neT hr.hu1) (dr (de_callE c_l_times hr rfl tk (da_cons (de_vs (i := 0) rfl (by first | exact .inl rfl | exact .inr (.inl rfl) | exact .inr (.inr rfl))) da_nil) (leq_cons leq_nil))) (dr (de_callE c_l_times hr rfl tk (da_cons (de_vs (i := 1) rfl (by first | exact .inl rfl | exact .inr (.inl rfl) | exact .inr (.inr rfl))) da_nil) (leq_cons leq_nil))) (nomark _))))) (dss_cons (ds_ret (al := []) de_bl) dss_nil) dss_nil) (dss_cons (ds_for (al := []) hp rfl (di_range1 rfl T.z_range (de_b1 c1_len rfl T.z_len rfl (dr (de_vs (i := 0) rfl (by first | exact .inl rfl | exact .inr (.inl rfl) | exact .inr (.inr rfl)))))) (dg_name (i := 3) sc_l_is_heap.nd rfl (by first | exact .inl rfl | exact .inr rfl)) (fun _ => (dss_cons (ds_if (al := []) (dt_w (dw_or (dt_not (dt_truth (dr (de_isi is_tup rfl T.z_isinstance rfl (dr (de_ixA hr.hu1 (dr (de_vs (i := 0) rfl (by first | exact .inl rfl | exact .inr (.inl rfl) | exact .inr (.inr rfl)))) (de_vs (i := 3) rfl (by first | exact .inl rfl | exact .inr (.inl rfl) | exact .inr (.inr rfl))) (fun _ _ => rfl) (fun _ _ => rfl))) rfl T.z_tuple rfl)) (fun _ => rfl))) (dw_or (dt_cmp (od_ne hu) (dr (de_b1 c1_len rfl T.z_len rfl (dr (de_ixA hr.hu1 (dr (de_vs (i := 0) rfl (by first | exact .inl rfl | exact .inr (.inl rfl) | exact .inr (.inr rfl)))) (de_vs (i := 3) rfl (by first | exact .inl rfl | exact .inr (.inl rfl) | exact .inr (.inr rfl))) (fun _ _ => rfl) (fun _ _ => rfl))))) (dr (de_vs (i := 2) rfl (by first | exact .inl rfl | exact .inr (.inl rfl) | exact .inr (.inr rfl)))) (nomark _)) (dw_or1 (dt_w (dw_and (dt_cmp (od_gt hu) (dr (de_vs (i := 3) rfl (by first | exact .inl rfl | exact .inr (.inl rfl) | exact .inr (.inr rfl)))) (dr de_int) (nomark _)) (dw_and1 (dt_cmp (od_gt hu) (dr (de_ixA hr.hu1 (dr (de_vs (i := 0) rfl (by first | exact .inl rfl | exact .inr (.inl rfl) | exact .inr (.inr rfl)))) (de_bin od_sub (dr (de_vs (i := 3) rfl (by first | exact .inl rfl | exact .inr (.inl rfl) | exact .inr (.inr rfl)))) (dr de_int)) (fun _ _ => rfl) (fun _ _ => rfl))) (dr (de_ixA hr.hu1 (dr (de_vs (i := 0) rfl (by first | exact .inl rfl | exact .inr (.inl rfl) | exact .inr (.inr rfl)))) (de_vs (i := 3) rfl (by first | exact .inl rfl | exact .inr (.inl rfl) | exact .inr (.inr rfl))) (fun _ _ => rfl) (fun _ _ => rfl))) (nomark _))))))))) (dss_cons (ds_ret (al := []) de_bl) dss_nil) dss_nil) (dss_cons (ds_for (al := []) hp rfl (di_seq (de_ixA hr.hu1 (dr (de_vs (i := 0) rfl (by first | exact .inl rfl | exact .inr (.inl rfl) | exact .inr (.inr rfl)))) (de_vs (i := 3) rfl (by first | exact .inl rfl | exact .inr (.inl rfl) | exact .inr (.inr rfl))) (fun _ _ => rfl) (fun _ _ => rfl))) (dg_name (i := 4) sc_l_is_heap.nd rfl (by first | exact .inl rfl | exact .inr rfl)) (fun _ => (dss_cons (ds_if (al := []) (dt_w (dw_or (dt_not (dt_truth (dr (de_isi is_int rfl T.z_isinstance rfl (dr (de_vs (i := 4) rfl (by first | exact .inl rfl | exact .inr (.inl rfl) | exact .inr (.inr rfl)))) rfl T.z_int rfl)) (fun _ => rfl))) (dw_or1 (dt_truth (dr (de_isi is_bool rfl T.z_isinstance rfl (dr (de_vs (i := 4) rfl (by first | exact .inl rfl | exact .inr (.inl rfl) | exact .inr (.inr rfl)))) rfl T.z_bool rfl)) (fun _ => rfl))))) (dss_cons (ds_ret (al := []) de_bl) dss_nil) dss_nil) dss_nil))) dss_nil)))) (dss_cons (ds_ret (al := []) de_bl) dss_nil)))
abbrev N_law : List Str := ["_law_script", "_law_width", "_law_rows_here", "_law_handed", "_law_found"]
theorem sc_law : FnScope N_law ["_law_script"] (defScope s_law) := ⟨rfl, rfl, rfl, by decide +kernel, rfl, by decide +kernel, by decide +kernel⟩
theorem ok_law {P : Program} {w : World} {K : PySem.W.Frag} {mg : Str → Option Value} {base : Heap} {f : Addr} {fd : FuncData} (T : Txt K mg) (F : Fun K "law" "law" s_law f fd) (c_l_rows : CallOk P w K mg base 3 "_law_rows" ["_law_cells", "_law_width"] F_l_rows) (c_l_refused : CallOk P w K mg base 3 "_law_refused" ["_law_rows_here"] F_l_refused) (c_l_is_heap : CallOk P w K mg base 3 "_law_is_heap" ["_law_found", "_law_due", "_law_width"] F_l_is_heap) (c_table_of : CallOk P w K mg base 3 "table_of" ["rows"] F_table_of) :
    FnOk P w K mg base (L2.CX P w) 4 f fd ["_law_script"] (spD K mg 1 F_law) :=
  fnD (N := N_law) (k := 3) (fb := b_law) F sc_law fun cdv A outer s H G E hr tk hp =>
    by have hu := Room.hu hr; exact (dss_cons (ds_set (al := []) (i := 1) sc_law.nd rfl (by first | exact .inl rfl | exact .inr rfl) (de_bin od_add (dr de_int) (dr (de_bin od_mod (dr (de_ix (dr (de_bin od_add (dr (de_vs (i := 0) rfl (by first | exact .inl rfl | exact .inr (.inl rfl) | exact .inr (.inr rfl)))) (dr (de_of (df_lst (da_cons de_int da_nil) (len_cons len_nil) (by rw [PySem.sizeLine_eq]; decide)))))) (dr de_int) (fun _ _ => rfl))) (dr de_int))))) (dss_cons (ds_set (al := []) (i := 2) sc_law.nd rfl (by first | exact .inl rfl | exact .inr rfl) (de_callE c_l_rows hr rfl tk (da_cons (de_cut (dr (de_vs (i := 0) rfl (by first | exact .inl rfl | exact .inr (.inl rfl) | exact .inr (.inr rfl)))) (do_some de_int) (do_some de_int)) (da_cons (de_vs (i := 1) rfl (by first | exact .inl rfl | exact .inr (.inl rfl) | exact .inr (.inr rfl))) da_nil)) (leq_cons (leq_cons leq_nil)))) (dss_cons (ds_if (al := []) (dt_cmp (od_gt hu) (dr (de_b1 c1_len rfl T.z_len rfl (dr (de_vs (i := 2) rfl (by first | exact .inl rfl | exact .inr (.inl rfl) | exact .inr (.inr rfl)))))) (dr de_int) (nomark _)) (dss_cons (ds_ret (al := []) (de_and (de_callE c_l_refused hr rfl tk (da_cons (de_vs (i := 2) rfl (by first | exact .inl rfl | exact .inr (.inl rfl) | exact .inr (.inr rfl))) da_nil) (leq_cons leq_nil)) (de_and (de_callE c_l_refused hr rfl tk (da_cons (de_t1 c1_tuple rfl T.z_tuple rfl (dr (de_vs (i := 2) rfl (by first | exact .inl rfl | exact .inr (.inl rfl) | exact .inr (.inr rfl))))) da_nil) (leq_cons leq_nil)) (de_one (de_callE c_l_is_heap hr rfl tk (da_cons (de_callE c_table_of hr rfl tk (da_cons (de_cut (dr (de_vs (i := 2) rfl (by first | exact .inl rfl | exact .inr (.inl rfl) | exact .inr (.inr rfl)))) do_none (do_some de_int)) da_nil) (leq_cons leq_nil)) (da_cons (de_cut (dr (de_vs (i := 2) rfl (by first | exact .inl rfl | exact .inr (.inl rfl) | exact .inr (.inr rfl)))) do_none (do_some de_int)) (da_cons (de_vs (i := 1) rfl (by first | exact .inl rfl | exact .inr (.inl rfl) | exact .inr (.inr rfl))) da_nil))) (leq_cons (leq_cons (leq_cons leq_nil)))))))) dss_nil) dss_nil) (dss_cons (ds_set (al := []) (i := 3) sc_law.nd rfl (by first | exact .inl rfl | exact .inr rfl) (de_of (df_t1 c1_list rfl T.z_list rfl (dr (de_vs (i := 2) rfl (by first | exact .inl rfl | exact .inr (.inl rfl) | exact .inr (.inr rfl))))))) (dss_cons (ds_set (al := []) (i := 4) sc_law.nd rfl (by first | exact .inl rfl | exact .inr rfl) (de_callE c_table_of hr rfl tk (da_cons (de_vs (i := 3) rfl (by first | exact .inl rfl | exact .inr (.inl rfl) | exact .inr (.inr rfl))) da_nil) (leq_cons leq_nil))) (dss_cons (ds_if (al := []) (dt_w (dw_or (dt_cmp (od_ne hu) (dr (de_vs (i := 3) rfl (by first | exact .inl rfl | exact .inr (.inl rfl) | exact .inr (.inr rfl)))) (dr (de_vs (i := 2) rfl (by first | exact .inl rfl | exact .inr (.inl rfl) | exact .inr (.inr rfl)))) (nomark _)) (dw_or1 (dt_not (dt_truth (dr (de_callE c_l_is_heap hr rfl tk (da_cons (de_vs (i := 4) rfl (by first | exact .inl rfl | exact .inr (.inl rfl) | exact .inr (.inr rfl))) (da_cons (de_vs (i := 2) rfl (by first | exact .inl rfl | exact .inr (.inl rfl) | exact .inr (.inr rfl))) (da_cons (de_vs (i := 1) rfl (by first | exact .inl rfl | exact .inr (.inl rfl) | exact .inr (.inr rfl))) da_nil))) (leq_cons (leq_cons (leq_cons leq_nil))))) (fun _ => rfl)))))) (dss_cons (ds_ret (al := []) de_bl) dss_nil) dss_nil) (dss_cons (ds_ret (al := []) (de_and (de_cmp (od_eq hu) (dr (de_callE c_table_of hr rfl tk (da_cons (de_t1 c1_tuple rfl T.z_tuple rfl (dr (de_vs (i := 2) rfl (by first | exact .inl rfl | exact .inr (.inl rfl) | exact .inr (.inr rfl))))) da_nil) (leq_cons leq_nil))) (dr (de_vs (i := 4) rfl (by first | exact .inl rfl | exact .inr (.inl rfl) | exact .inr (.inr rfl)))) (nomark _)) (de_one (de_cmp (od_eq hu) (dr (de_callE c_table_of hr rfl tk (da_cons (de_of (df_listRev rfl rfl T.z_list rfl T.z_reversed (dr (de_vs (i := 2) rfl (by first | exact .inl rfl | exact .inr (.inl rfl) | exact .inr (.inr rfl)))))) da_nil) (leq_cons leq_nil))) (dr (de_vs (i := 4) rfl (by first | exact .inl rfl | exact .inr (.inl rfl) | exact .inr (.inr rfl)))) (nomark _))))) dss_nil)))))))
end DLaw
namespace DLaw
open PySem PySem.Spec PyProof.Rows L2
open DL
theorem all_mk {P : Program} {w : World} {K : PySem.W.Frag} {h : Heap} {mg : Str → Option Value} {fa : Addr} (X : K.In h) (G : h.Ns mainGlobals mg) (hfa : mg "law" = some (.ref fa))
    {f1 f2 f3 f4 f5 f6 f7 f8 f9 : Addr} {od1 an1 od2 an2 od3 an3 od4 an4 od5 an5 od6 an6 od7 an7 od8 an8 od9 an9 : Option Addr} {sl1 sl2 sl3 sl4 sl5 sl6 sl7 sl8 sl9 : Array (Option Value)} {oc1 kV1 dc1 pm1 cd1 ct1 oc2 kV2 dc2 pm2 cd2 ct2 oc3 kV3 dc3 pm3 cd3 ct3 oc4 kV4 dc4 pm4 cd4 ct4 oc5 kV5 dc5 pm5 cd5 ct5 oc6 kV6 dc6 pm6 cd6 ct6 oc7 kV7 dc7 pm7 cd7 ct7 oc8 kV8 dc8 pm8 cd8 ct8 oc9 kV9 dc9 pm9 cd9 ct9 : Value}
    {C_TooMany : Addr} {C_NoShare : Addr} {C_NoSpread : Addr} {C_NoAnswer : Addr} {C_NoDie : Addr} {C_PastPurse : Addr} {C_Unlike : Addr} {C_BadText : Addr} {C_BadProgram : Addr} {C_BlurError : Addr}{tk1 : Tok}
    (a1 : PySem.W.nsIn K mainGlobals "_law_mixed" = some (some (.ref f1))) (l1 : K.lookup f1 = some ⟨oc1, od1, .func (PySem.W.fnOf "_law_mixed" "_law_mixed" (defArgs s_l_mixed) (defBody s_l_mixed) (defScope s_l_mixed) .none kV1 dc1 pm1 an1 cd1 ct1), sl1⟩) (c1 : PySem.W.codeIn K cd1 "_law_mixed" = true) (k1 : PySem.W.keepIn K (.ref f1) = true)
    (a2 : PySem.W.nsIn K mainGlobals "_law_number" = some (some (.ref f2))) (l2 : K.lookup f2 = some ⟨oc2, od2, .func (PySem.W.fnOf "_law_number" "_law_number" (defArgs s_l_number) (defBody s_l_number) (defScope s_l_number) .none kV2 dc2 pm2 an2 cd2 ct2), sl2⟩) (c2 : PySem.W.codeIn K cd2 "_law_number" = true) (k2 : PySem.W.keepIn K (.ref f2) = true)
    (a3 : PySem.W.nsIn K mainGlobals "_law_row" = some (some (.ref f3))) (l3 : K.lookup f3 = some ⟨oc3, od3, .func (PySem.W.fnOf "_law_row" "_law_row" (defArgs s_l_row) (defBody s_l_row) (defScope s_l_row) .none kV3 dc3 pm3 an3 cd3 ct3), sl3⟩) (c3 : PySem.W.codeIn K cd3 "_law_row" = true) (k3 : PySem.W.keepIn K (.ref f3) = true)
    (a4 : PySem.W.nsIn K mainGlobals "_law_rows" = some (some (.ref f4))) (l4 : K.lookup f4 = some ⟨oc4, od4, .func (PySem.W.fnOf "_law_rows" "_law_rows" (defArgs s_l_rows) (defBody s_l_rows) (defScope s_l_rows) .none kV4 dc4 pm4 an4 cd4 ct4), sl4⟩) (c4 : PySem.W.codeIn K cd4 "_law_rows" = true) (k4 : PySem.W.keepIn K (.ref f4) = true)
    (a5 : PySem.W.nsIn K mainGlobals "table_of" = some (some (.ref f5))) (l5 : K.lookup f5 = some ⟨oc5, od5, .func (PySem.W.fnOf "table_of" "table_of" (defArgs s_table_of) (defBody s_table_of) (defScope s_table_of) .none kV5 dc5 pm5 an5 cd5 ct5), sl5⟩) (c5 : PySem.W.codeIn K cd5 "table_of" = true) (k5 : PySem.W.keepIn K (.ref f5) = true)
    (a6 : PySem.W.nsIn K mainGlobals "_law_refused" = some (some (.ref f6))) (l6 : K.lookup f6 = some ⟨oc6, od6, .func (PySem.W.fnOf "_law_refused" "_law_refused" (defArgs s_l_refused) (defBody s_l_refused) (defScope s_l_refused) .none kV6 dc6 pm6 an6 cd6 ct6), sl6⟩) (c6 : PySem.W.codeIn K cd6 "_law_refused" = true) (k6 : PySem.W.keepIn K (.ref f6) = true)
    (a7 : PySem.W.nsIn K mainGlobals "_law_times" = some (some (.ref f7))) (l7 : K.lookup f7 = some ⟨oc7, od7, .func (PySem.W.fnOf "_law_times" "_law_times" (defArgs s_l_times) (defBody s_l_times) (defScope s_l_times) .none kV7 dc7 pm7 an7 cd7 ct7), sl7⟩) (c7 : PySem.W.codeIn K cd7 "_law_times" = true) (k7 : PySem.W.keepIn K (.ref f7) = true)
    (a8 : PySem.W.nsIn K mainGlobals "_law_is_heap" = some (some (.ref f8))) (l8 : K.lookup f8 = some ⟨oc8, od8, .func (PySem.W.fnOf "_law_is_heap" "_law_is_heap" (defArgs s_l_is_heap) (defBody s_l_is_heap) (defScope s_l_is_heap) .none kV8 dc8 pm8 an8 cd8 ct8), sl8⟩) (c8 : PySem.W.codeIn K cd8 "_law_is_heap" = true) (k8 : PySem.W.keepIn K (.ref f8) = true)
    (a9 : PySem.W.nsIn K mainGlobals "law" = some (some (.ref f9))) (l9 : K.lookup f9 = some ⟨oc9, od9, .func (PySem.W.fnOf "law" "law" (defArgs s_law) (defBody s_law) (defScope s_law) .none kV9 dc9 pm9 an9 cd9 ct9), sl9⟩) (c9 : PySem.W.codeIn K cd9 "law" = true) (k9 : PySem.W.keepIn K (.ref f9) = true)
    (z1 : PySem.W.nsIn K mainGlobals "range" = some none)
    (z2 : PySem.W.nsIn K mainGlobals "tuple" = some none)
    (z3 : PySem.W.nsIn K mainGlobals "len" = some none)
    (z4 : PySem.W.nsIn K mainGlobals "sorted" = some none)
    (z5 : PySem.W.nsIn K mainGlobals "isinstance" = some none)
    (z6 : PySem.W.nsIn K mainGlobals "ValueError" = some none)
    (z7 : PySem.W.nsIn K mainGlobals "int" = some none)
    (z8 : PySem.W.nsIn K mainGlobals "bool" = some none)
    (z9 : PySem.W.nsIn K mainGlobals "list" = some none)
    (z10 : PySem.W.nsIn K mainGlobals "reversed" = some none)
    (g_TooMany : PySem.W.nsIn K mainGlobals "TooMany" = some (some (.ref C_TooMany))) (u_TooMany : PySem.W.subIn K (.ref C_TooMany) (.type "BaseException") = some true) (t_TooMany : PySem.W.typeIn K (.ref C_TooMany) = some (.type "type"))
    (x_TooMany : PySem.W.excIn K C_TooMany [.type "ValueError", .type "Exception", .type "BaseException", .type "object"] "ValueError.__new__" = true) (e_TooMany : PySem.W.keepIn K (.ref C_TooMany) = true)
    (i_TooMany : PySem.W.isClsIn K C_TooMany = true)
    (g_NoShare : PySem.W.nsIn K mainGlobals "NoShare" = some (some (.ref C_NoShare))) (u_NoShare : PySem.W.subIn K (.ref C_NoShare) (.type "BaseException") = some true) (t_NoShare : PySem.W.typeIn K (.ref C_NoShare) = some (.type "type"))
    (i_NoShare : PySem.W.isClsIn K C_NoShare = true)
    (g_NoSpread : PySem.W.nsIn K mainGlobals "NoSpread" = some (some (.ref C_NoSpread))) (u_NoSpread : PySem.W.subIn K (.ref C_NoSpread) (.type "BaseException") = some true) (t_NoSpread : PySem.W.typeIn K (.ref C_NoSpread) = some (.type "type"))
    (i_NoSpread : PySem.W.isClsIn K C_NoSpread = true)
    (g_NoAnswer : PySem.W.nsIn K mainGlobals "NoAnswer" = some (some (.ref C_NoAnswer))) (u_NoAnswer : PySem.W.subIn K (.ref C_NoAnswer) (.type "BaseException") = some true) (t_NoAnswer : PySem.W.typeIn K (.ref C_NoAnswer) = some (.type "type"))
    (i_NoAnswer : PySem.W.isClsIn K C_NoAnswer = true)
    (g_NoDie : PySem.W.nsIn K mainGlobals "NoDie" = some (some (.ref C_NoDie))) (u_NoDie : PySem.W.subIn K (.ref C_NoDie) (.type "BaseException") = some true) (t_NoDie : PySem.W.typeIn K (.ref C_NoDie) = some (.type "type"))
    (i_NoDie : PySem.W.isClsIn K C_NoDie = true)
    (g_PastPurse : PySem.W.nsIn K mainGlobals "PastPurse" = some (some (.ref C_PastPurse))) (u_PastPurse : PySem.W.subIn K (.ref C_PastPurse) (.type "BaseException") = some true) (t_PastPurse : PySem.W.typeIn K (.ref C_PastPurse) = some (.type "type"))
    (i_PastPurse : PySem.W.isClsIn K C_PastPurse = true)
    (g_Unlike : PySem.W.nsIn K mainGlobals "Unlike" = some (some (.ref C_Unlike))) (u_Unlike : PySem.W.subIn K (.ref C_Unlike) (.type "BaseException") = some true) (t_Unlike : PySem.W.typeIn K (.ref C_Unlike) = some (.type "type"))
    (i_Unlike : PySem.W.isClsIn K C_Unlike = true)
    (g_BadText : PySem.W.nsIn K mainGlobals "BadText" = some (some (.ref C_BadText))) (u_BadText : PySem.W.subIn K (.ref C_BadText) (.type "BaseException") = some true) (t_BadText : PySem.W.typeIn K (.ref C_BadText) = some (.type "type"))
    (i_BadText : PySem.W.isClsIn K C_BadText = true)
    (g_BadProgram : PySem.W.nsIn K mainGlobals "BadProgram" = some (some (.ref C_BadProgram))) (u_BadProgram : PySem.W.subIn K (.ref C_BadProgram) (.type "BaseException") = some true) (t_BadProgram : PySem.W.typeIn K (.ref C_BadProgram) = some (.type "type"))
    (i_BadProgram : PySem.W.isClsIn K C_BadProgram = true)
    (g_BlurError : PySem.W.nsIn K mainGlobals "BlurError" = some (some (.ref C_BlurError))) (u_BlurError : PySem.W.subIn K (.ref C_BlurError) (.type "BaseException") = some true) (t_BlurError : PySem.W.typeIn K (.ref C_BlurError) = some (.type "type"))
    (i_BlurError : PySem.W.isClsIn K C_BlurError = true)
    (v1_TooMany : PySem.W.findIn K (.ref C_TooMany) "__getattribute__" = some (some (.builtin "BaseException.__getattribute__"))) (v2_TooMany : PySem.W.findIn K (.ref C_TooMany) "__getattr__" = some none) (v3_TooMany : PySem.W.hasDictIn K C_TooMany = true) (v4_TooMany : PySem.W.findIn K (.ref C_TooMany) "__class__" = some (some (.builtin "object.__class__"))) (v5_TooMany : PySem.W.specialIn K (.builtin "object.__class__") "__get__" = some (some (.builtin "getset_descriptor.__get__"))) (v6_TooMany : PySem.W.takesIn K (.builtin "object.__class__") = some true) (v7_TooMany : PySem.W.mroIn K C_TooMany (.type "object") = some true)
    (s_TooMany_TooMany : PySem.W.subIn K (.ref C_TooMany) (.ref C_TooMany) = some true)
    (n_TooMany_NoShare : (Value.ref C_TooMany == Value.ref C_NoShare) = false)
    (s_TooMany_NoShare : PySem.W.subIn K (.ref C_TooMany) (.ref C_NoShare) = some false)
    (n_TooMany_NoSpread : (Value.ref C_TooMany == Value.ref C_NoSpread) = false)
    (s_TooMany_NoSpread : PySem.W.subIn K (.ref C_TooMany) (.ref C_NoSpread) = some false)
    (n_TooMany_NoAnswer : (Value.ref C_TooMany == Value.ref C_NoAnswer) = false)
    (s_TooMany_NoAnswer : PySem.W.subIn K (.ref C_TooMany) (.ref C_NoAnswer) = some false)
    (n_TooMany_NoDie : (Value.ref C_TooMany == Value.ref C_NoDie) = false)
    (s_TooMany_NoDie : PySem.W.subIn K (.ref C_TooMany) (.ref C_NoDie) = some false)
    (n_TooMany_PastPurse : (Value.ref C_TooMany == Value.ref C_PastPurse) = false)
    (s_TooMany_PastPurse : PySem.W.subIn K (.ref C_TooMany) (.ref C_PastPurse) = some false)
    (n_TooMany_Unlike : (Value.ref C_TooMany == Value.ref C_Unlike) = false)
    (s_TooMany_Unlike : PySem.W.subIn K (.ref C_TooMany) (.ref C_Unlike) = some false)
    (n_TooMany_BadText : (Value.ref C_TooMany == Value.ref C_BadText) = false)
    (s_TooMany_BadText : PySem.W.subIn K (.ref C_TooMany) (.ref C_BadText) = some false)
    (n_TooMany_BadProgram : (Value.ref C_TooMany == Value.ref C_BadProgram) = false)
    (s_TooMany_BadProgram : PySem.W.subIn K (.ref C_TooMany) (.ref C_BadProgram) = some false)
    (s_TooMany_BlurError : PySem.W.subIn K (.ref C_TooMany) (.ref C_BlurError) = some true)
    (w_TooMany : PySem.W.kitOne K (.ref C_TooMany) (.type "ValueError") = some true)
    (kg_MOST_ROWS : PySem.W.nsIn K mainGlobals "MOST_ROWS" = some (some (.int 40 tk1)))
    : ∃ fd : FuncData, (∀ (s : Shared) (u : Value), BindsTo s fd ⟨[u], []⟩ [("_law_script", u)]) ∧ ∀ base : Heap, K.In base → base.Ns mainGlobals mg → FnOk P w K mg base (L2.CX P w) 4 fa fd ["_law_script"] (spD K mg 1 F_law) := by
  have e := hfa.symm.trans (PySem.W.mg_of X G a9)
  cases e
  have T : Txt K mg := ⟨PySem.W.mg_none_of X G z1, PySem.W.mg_none_of X G z2, PySem.W.mg_none_of X G z3, PySem.W.mg_none_of X G z4, PySem.W.mg_none_of X G z5, PySem.W.mg_none_of X G z6, PySem.W.mg_none_of X G z7, PySem.W.mg_none_of X G z8, PySem.W.mg_none_of X G z9, PySem.W.mg_none_of X G z10, ⟨⟨C_TooMany, "ValueError", _, _, _, PySem.F.excBase_ValueError, x_TooMany, PySem.W.mg_of X G g_TooMany, e_TooMany, u_TooMany, t_TooMany⟩⟩, (Con.int.at (PySem.W.mg_of X G kg_MOST_ROWS)), ⟨_, PySem.W.mg_of X G g_NoShare, (IsTab.cons (PySem.W.mg_of X G g_TooMany) ⟨v1_TooMany, v2_TooMany, u_TooMany, v3_TooMany, v4_TooMany, v5_TooMany, v6_TooMany, v7_TooMany⟩ (kit_own (fun z => n_TooMany_NoShare.symm.trans z) i_NoShare t_NoShare s_TooMany_NoShare) IsTab.nil)⟩, ⟨_, PySem.W.mg_of X G g_NoSpread, (IsTab.cons (PySem.W.mg_of X G g_TooMany) ⟨v1_TooMany, v2_TooMany, u_TooMany, v3_TooMany, v4_TooMany, v5_TooMany, v6_TooMany, v7_TooMany⟩ (kit_own (fun z => n_TooMany_NoSpread.symm.trans z) i_NoSpread t_NoSpread s_TooMany_NoSpread) IsTab.nil)⟩, ⟨_, PySem.W.mg_of X G g_NoAnswer, (IsTab.cons (PySem.W.mg_of X G g_TooMany) ⟨v1_TooMany, v2_TooMany, u_TooMany, v3_TooMany, v4_TooMany, v5_TooMany, v6_TooMany, v7_TooMany⟩ (kit_own (fun z => n_TooMany_NoAnswer.symm.trans z) i_NoAnswer t_NoAnswer s_TooMany_NoAnswer) IsTab.nil)⟩, ⟨_, PySem.W.mg_of X G g_NoDie, (IsTab.cons (PySem.W.mg_of X G g_TooMany) ⟨v1_TooMany, v2_TooMany, u_TooMany, v3_TooMany, v4_TooMany, v5_TooMany, v6_TooMany, v7_TooMany⟩ (kit_own (fun z => n_TooMany_NoDie.symm.trans z) i_NoDie t_NoDie s_TooMany_NoDie) IsTab.nil)⟩, ⟨_, PySem.W.mg_of X G g_PastPurse, (IsTab.cons (PySem.W.mg_of X G g_TooMany) ⟨v1_TooMany, v2_TooMany, u_TooMany, v3_TooMany, v4_TooMany, v5_TooMany, v6_TooMany, v7_TooMany⟩ (kit_own (fun z => n_TooMany_PastPurse.symm.trans z) i_PastPurse t_PastPurse s_TooMany_PastPurse) IsTab.nil)⟩, ⟨_, PySem.W.mg_of X G g_Unlike, (IsTab.cons (PySem.W.mg_of X G g_TooMany) ⟨v1_TooMany, v2_TooMany, u_TooMany, v3_TooMany, v4_TooMany, v5_TooMany, v6_TooMany, v7_TooMany⟩ (kit_own (fun z => n_TooMany_Unlike.symm.trans z) i_Unlike t_Unlike s_TooMany_Unlike) IsTab.nil)⟩, ⟨_, PySem.W.mg_of X G g_BadText, (IsTab.cons (PySem.W.mg_of X G g_TooMany) ⟨v1_TooMany, v2_TooMany, u_TooMany, v3_TooMany, v4_TooMany, v5_TooMany, v6_TooMany, v7_TooMany⟩ (kit_own (fun z => n_TooMany_BadText.symm.trans z) i_BadText t_BadText s_TooMany_BadText) IsTab.nil)⟩, ⟨_, PySem.W.mg_of X G g_BadProgram, (IsTab.cons (PySem.W.mg_of X G g_TooMany) ⟨v1_TooMany, v2_TooMany, u_TooMany, v3_TooMany, v4_TooMany, v5_TooMany, v6_TooMany, v7_TooMany⟩ (kit_own (fun z => n_TooMany_BadProgram.symm.trans z) i_BadProgram t_BadProgram s_TooMany_BadProgram) IsTab.nil)⟩, ⟨_, PySem.W.mg_of X G g_BlurError, (IsTab.cons (PySem.W.mg_of X G g_TooMany) ⟨v1_TooMany, v2_TooMany, u_TooMany, v3_TooMany, v4_TooMany, v5_TooMany, v6_TooMany, v7_TooMany⟩ (kit_own (fun _ => rfl) i_BlurError t_BlurError s_TooMany_BlurError) IsTab.nil)⟩, (IsTab.cons (PySem.W.mg_of X G g_TooMany) ⟨v1_TooMany, v2_TooMany, u_TooMany, v3_TooMany, v4_TooMany, v5_TooMany, v6_TooMany, v7_TooMany⟩ w_TooMany IsTab.nil), ⟨_, PySem.W.mg_of X G g_TooMany, (Clause.cons (PySem.W.mg_of X G g_TooMany) (exm_two u_TooMany i_TooMany t_TooMany s_TooMany_TooMany) Clause.nil)⟩⟩
  have F1 := fun_mk (st := s_l_mixed) l1 c1 k1
  have b1 := F1.binds (ps := ["_law_cell", "_law_k"]) fun _ _ _ _ _ _ us hl => match us, hl with | [_, _], _ => rfl
  have F2 := fun_mk (st := s_l_number) l2 c2 k2
  have b2 := F2.binds (ps := ["_law_n"]) fun _ _ _ _ _ _ us hl => match us, hl with | [_], _ => rfl
  have F3 := fun_mk (st := s_l_row) l3 c3 k3
  have b3 := F3.binds (ps := ["_law_cell", "_law_width"]) fun _ _ _ _ _ _ us hl => match us, hl with | [_, _], _ => rfl
  have F4 := fun_mk (st := s_l_rows) l4 c4 k4
  have b4 := F4.binds (ps := ["_law_cells", "_law_width"]) fun _ _ _ _ _ _ us hl => match us, hl with | [_, _], _ => rfl
  have F5 := fun_mk (st := s_table_of) l5 c5 k5
  have b5 := F5.binds (ps := ["rows"]) fun _ _ _ _ _ _ us hl => match us, hl with | [_], _ => rfl
  have F6 := fun_mk (st := s_l_refused) l6 c6 k6
  have b6 := F6.binds (ps := ["_law_rows_here"]) fun _ _ _ _ _ _ us hl => match us, hl with | [_], _ => rfl
  have F7 := fun_mk (st := s_l_times) l7 c7 k7
  have b7 := F7.binds (ps := ["_law_rows_here"]) fun _ _ _ _ _ _ us hl => match us, hl with | [_], _ => rfl
  have F8 := fun_mk (st := s_l_is_heap) l8 c8 k8
  have b8 := F8.binds (ps := ["_law_found", "_law_due", "_law_width"]) fun _ _ _ _ _ _ us hl => match us, hl with | [_, _, _], _ => rfl
  have F9 := fun_mk (st := s_law) l9 c9 k9
  have b9 := F9.binds (ps := ["_law_script"]) fun _ _ _ _ _ _ us hl => match us, hl with | [_], _ => rfl
  refine ⟨PySem.W.fnOf "law" "law" (defArgs s_law) (defBody s_law) (defScope s_law) .none kV9 dc9 pm9 an9 cd9 ct9, fun s v => .of_eq rfl, fun base _ _ => ?_⟩
  have h_l_mixed : CallOk P w K mg base 1 "_law_mixed" ["_law_cell", "_law_k"] F_l_mixed := ⟨f1, _, PySem.W.mg_of X G a1, k1, b1, ok_l_mixed T F1 ⟩
  have h_l_number : CallOk P w K mg base 1 "_law_number" ["_law_n"] F_l_number := ⟨f2, _, PySem.W.mg_of X G a2, k2, b2, ok_l_number T F2 ⟩
  have h_l_row : CallOk P w K mg base 2 "_law_row" ["_law_cell", "_law_width"] F_l_row := ⟨f3, _, PySem.W.mg_of X G a3, k3, b3, ok_l_row T F3 (h_l_mixed.up (by decide)) (h_l_number.up (by decide))⟩
  have h_l_rows : CallOk P w K mg base 3 "_law_rows" ["_law_cells", "_law_width"] F_l_rows := ⟨f4, _, PySem.W.mg_of X G a4, k4, b4, ok_l_rows T F4 (h_l_row.up (by decide))⟩
  have h_table_of : CallOk P w K mg base 1 "table_of" ["rows"] F_table_of := ⟨f5, _, PySem.W.mg_of X G a5, k5, b5, ok_table_of T F5 ⟩
  have h_l_refused : CallOk P w K mg base 2 "_law_refused" ["_law_rows_here"] F_l_refused := ⟨f6, _, PySem.W.mg_of X G a6, k6, b6, ok_l_refused T F6 (h_table_of.up (by decide))⟩
  have h_l_times : CallOk P w K mg base 1 "_law_times" ["_law_rows_here"] F_l_times := ⟨f7, _, PySem.W.mg_of X G a7, k7, b7, ok_l_times T F7 ⟩
  have h_l_is_heap : CallOk P w K mg base 2 "_law_is_heap" ["_law_found", "_law_due", "_law_width"] F_l_is_heap := ⟨f8, _, PySem.W.mg_of X G a8, k8, b8, ok_l_is_heap T F8 (h_l_times.up (by decide))⟩
  exact ok_law T F9 (h_l_rows.up (by decide)) (h_l_refused.up (by decide)) (h_l_is_heap.up (by decide)) (h_table_of.up (by decide))
end DLaw
open PySem PySem.W PyProof.Rows
set_option maxRecDepth 100000 in
set_option maxHeartbeats 0 in
theorem PySem.Challenge.cw_blurdesk_k13_tables_made_holds : PySem.Challenge.rw_blurdesk_k13_tables_made.Holds := by
  w_on; o_law; k_head; (case hw => w_witness2)
  k_fill
  refine DL.endW (l := PySem.Challenge.rw_blurdesk_k13_tables_made) (k := 4) (F := DLaw.F_law) (x := "_law_script") rfl rfl (by decide) (fun w h Y => PySem.W.kIn_of Y) ?F DLaw.law_holds
  case F =>
    intro w mg fa h KX G hmg
    refine' DLaw.all_mk KX G hmg ?a1 ?l1 ?c1 ?k1 ?a2 ?l2 ?c2 ?k2 ?a3 ?l3 ?c3 ?k3 ?a4 ?l4 ?c4 ?k4 ?a5 ?l5 ?c5 ?k5 ?a6 ?l6 ?c6 ?k6 ?a7 ?l7 ?c7 ?k7 ?a8 ?l8 ?c8 ?k8 ?a9 ?l9 ?c9 ?k9 ?z1 ?z2 ?z3 ?z4 ?z5 ?z6 ?z7 ?z8 ?z9 ?z10 ?g_TooMany ?u_TooMany ?t_TooMany ?x_TooMany ?e_TooMany ?i_TooMany ?g_NoShare ?u_NoShare ?t_NoShare ?i_NoShare ?g_NoSpread ?u_NoSpread ?t_NoSpread ?i_NoSpread ?g_NoAnswer ?u_NoAnswer ?t_NoAnswer ?i_NoAnswer ?g_NoDie ?u_NoDie ?t_NoDie ?i_NoDie ?g_PastPurse ?u_PastPurse ?t_PastPurse ?i_PastPurse ?g_Unlike ?u_Unlike ?t_Unlike ?i_Unlike ?g_BadText ?u_BadText ?t_BadText ?i_BadText ?g_BadProgram ?u_BadProgram ?t_BadProgram ?i_BadProgram ?g_BlurError ?u_BlurError ?t_BlurError ?i_BlurError ?v1_TooMany ?v2_TooMany ?v3_TooMany ?v4_TooMany ?v5_TooMany ?v6_TooMany ?v7_TooMany ?s_TooMany_TooMany ?n_TooMany_NoShare ?s_TooMany_NoShare ?n_TooMany_NoSpread ?s_TooMany_NoSpread ?n_TooMany_NoAnswer ?s_TooMany_NoAnswer ?n_TooMany_NoDie ?s_TooMany_NoDie ?n_TooMany_PastPurse ?s_TooMany_PastPurse ?n_TooMany_Unlike ?s_TooMany_Unlike ?n_TooMany_BadText ?s_TooMany_BadText ?n_TooMany_BadProgram ?s_TooMany_BadProgram ?s_TooMany_BlurError ?w_TooMany ?kg_MOST_ROWS
    (case a1 => k_is); (case l1 => k_is); (case c1 => k_is); (case k1 => k_is); (case a2 => k_is); (case l2 => k_is)
    (case c2 => k_is); (case k2 => k_is); (case a3 => k_is); (case l3 => k_is); (case c3 => k_is); (case k3 => k_is)
    (case a4 => k_is); (case l4 => k_is); (case c4 => k_is); (case k4 => k_is); (case a5 => k_is); (case l5 => k_is)
    (case c5 => k_is); (case k5 => k_is); (case a6 => k_is); (case l6 => k_is); (case c6 => k_is); (case k6 => k_is)
    (case a7 => k_is); (case l7 => k_is); (case c7 => k_is); (case k7 => k_is); (case a8 => k_is); (case l8 => k_is)
    (case c8 => k_is); (case k8 => k_is); (case a9 => k_is); (case l9 => k_is); (case c9 => k_is); (case k9 => k_is)
    (case z1 => k_is); (case z2 => k_is); (case z3 => k_is); (case z4 => k_is); (case z5 => k_is); (case z6 => k_is)
    (case z7 => k_is); (case z8 => k_is); (case z9 => k_is); (case z10 => k_is); (case g_TooMany => k_is); (case u_TooMany => k_is)
    (case t_TooMany => k_is); (case x_TooMany => k_exc); (case e_TooMany => k_is); (case i_TooMany => k_is); (case g_NoShare => k_is); (case u_NoShare => k_is)
    (case t_NoShare => k_is); (case i_NoShare => k_is); (case g_NoSpread => k_is); (case u_NoSpread => k_is); (case t_NoSpread => k_is); (case i_NoSpread => k_is)
    (case g_NoAnswer => k_is); (case u_NoAnswer => k_is); (case t_NoAnswer => k_is); (case i_NoAnswer => k_is); (case g_NoDie => k_is); (case u_NoDie => k_is)
    (case t_NoDie => k_is); (case i_NoDie => k_is); (case g_PastPurse => k_is); (case u_PastPurse => k_is); (case t_PastPurse => k_is); (case i_PastPurse => k_is)
    (case g_Unlike => k_is); (case u_Unlike => k_is); (case t_Unlike => k_is); (case i_Unlike => k_is); (case g_BadText => k_is); (case u_BadText => k_is)
    (case t_BadText => k_is); (case i_BadText => k_is); (case g_BadProgram => k_is); (case u_BadProgram => k_is); (case t_BadProgram => k_is); (case i_BadProgram => k_is)
    (case g_BlurError => k_is); (case u_BlurError => k_is); (case t_BlurError => k_is); (case i_BlurError => k_is); (case v1_TooMany => k_is); (case v2_TooMany => k_is)
    (case v3_TooMany => k_is); (case v4_TooMany => k_is); (case v5_TooMany => k_is); (case v6_TooMany => k_is); (case v7_TooMany => k_is); (case s_TooMany_TooMany => first | rfl | k_is)
    (case n_TooMany_NoShare => first | rfl | k_is); (case s_TooMany_NoShare => first | rfl | k_is); (case n_TooMany_NoSpread => first | rfl | k_is); (case s_TooMany_NoSpread => first | rfl | k_is); (case n_TooMany_NoAnswer => first | rfl | k_is); (case s_TooMany_NoAnswer => first | rfl | k_is)
    (case n_TooMany_NoDie => first | rfl | k_is); (case s_TooMany_NoDie => first | rfl | k_is); (case n_TooMany_PastPurse => first | rfl | k_is); (case s_TooMany_PastPurse => first | rfl | k_is); (case n_TooMany_Unlike => first | rfl | k_is); (case s_TooMany_Unlike => first | rfl | k_is)
    (case n_TooMany_BadText => first | rfl | k_is); (case s_TooMany_BadText => first | rfl | k_is); (case n_TooMany_BadProgram => first | rfl | k_is); (case s_TooMany_BadProgram => first | rfl | k_is); (case s_TooMany_BlurError => first | rfl | k_is); (case w_TooMany => first | rfl | k_is)
    (case kg_MOST_ROWS => k_is)
#print axioms PySem.Challenge.cw_blurdesk_k13_tables_made_holds
