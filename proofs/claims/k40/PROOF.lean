import PyProof.Rows.All
import Wide.All
import OpenK.AllK
import Wide.FinOn
import HandS.ForExc
import HandS.ForMost
import HandS.Wide
import HandS.ExcOwn
import HandS.TupAny
import HandS.TupMul
import KE.DataCmp
import KE.SortData
import HandS.TupLen
import HandS.IsInst
import HandS.EndBits
import HandS.Zip
import HandS.ExcIs
import KE.DataMinMax
import KE.DataFind
import HandS.Conv
import HandS.Deep
import HandS.Style
import HandS.Text
import HandS.SetFor
import KE.GoesEnum
import HandS.Iter
import HandS.RevTup
import HandS.Rev
import HandS.DictComp
import HandS.Set
import HandS.TupSets
import HandS.SetKeys
import HandS.SortKw
import HandS.DictSubView
import KE.KDictWalk
import KE.KEqDict
import PyProof.DictUpdate
import PyProof.FactsAll.dict_4
import HandS.HeadHook3
import PySem.Challenge.RW_blurdesk_k40_views_and_measures
set_option Elab.async false
set_option linter.all false
set_option maxRecDepth 100000
set_option maxHeartbeats 4000000
/-! Plain data over the hand layer: values without addresses; lists and dicts by value, changed in place only through the one name that holds them. -/
namespace DL
open PySem PySem.Spec PyProof.Rows L2

/-- a value, whole -/
inductive D where
  | non
  | bl (b : Bool)
  | int (i : Int)
  | str (x : Str)
  | obj (v : V)
  | tup (xs : List D)
  | con (xs : List D)
  | lst (xs : List D)
  | dct (t : Bool) (kvs : List (D × D))

/-- what comes of a reckoning -/
inductive Res (α : Type) where
  | ok (a : α)
  | exc (c : String) (fs : List D)
  | bad

def Res.bind {α β : Type} (r : Res α) (f : α → Res β) : Res β := match r with
  | .ok a => f a
  | .exc c fs => .exc c fs
  | .bad => .bad
@[simp] theorem Res.bind_ok {α β : Type} (a : α) (f : α → Res β) : (Res.ok a).bind f = f a := Eq.trans rfl rfl
@[simp] theorem Res.bind_exc {α β : Type} (c : String) (fs : List D) (f : α → Res β) : (Res.exc c fs : Res α).bind f = .exc c fs := Eq.trans rfl rfl
@[simp] theorem Res.bind_bad {α β : Type} (f : α → Res β) : (Res.bad : Res α).bind f = .bad := Eq.trans rfl rfl

/-- keys of dicts -/
def keyD : Key → D
  | .inl i => .int i
  | .inr x => .str x
def keyT (k : List Key) : D := .tup (k.map keyD)

mutual
/-- the value v is the data d, over the heap's part G -/
def Rep (K : PySem.W.Frag) (G : Hp) : D → V → Prop
  | .non, v => v = .non
  | .bl b, v => v = .bl b
  | .int i, v => v = .int i
  | .str x, v => v = .str x
  | .obj u, v => v = u
  | .tup ds, v => ∃ a vs, v = .ref a ∧ G a = some (.tup vs) ∧ RepL K G ds vs
  | .con ds, v => ∃ a vs, v = .ref a ∧ SqT K G a vs ∧ RepL K G ds vs
  | .lst ds, v => ∃ a vs, v = .ref a ∧ SqL K G a vs ∧ RepL K G ds vs
  | .dct t kvs, v => ∃ a, v = .ref a ∧ ((t = false ∧ ∃ od ps, G a = some (.frz od (.dK ps)) ∧ kvs.map (·.1) = ps.map (fun p => keyD p.1) ∧ RepV K G kvs (ps.map (·.2))) ∨
      (t = true ∧ ∃ od ps, G a = some (.frz od (.dT ps)) ∧ kvs.map (·.1) = ps.map (fun p => keyT p.1) ∧ RepV K G kvs (ps.map (·.2))))
def RepL (K : PySem.W.Frag) (G : Hp) : List D → List V → Prop
  | [], vs => vs = []
  | d :: ds, vs => ∃ v r, vs = v :: r ∧ Rep K G d v ∧ RepL K G ds r
def RepV (K : PySem.W.Frag) (G : Hp) : List (D × D) → List V → Prop
  | [], vs => vs = []
  | (_, d) :: r, vs => ∃ v r', vs = v :: r' ∧ Rep K G d v ∧ RepV K G r r'
end

/-- the part G lies in H -/
def Sub (G H : Hp) : Prop := ∀ b o, G b = some o → H b = some o
theorem Sub.refl (H : Hp) : Sub H H := fun _ _ e => e
theorem Sub.trans {A B C : Hp} (h : Sub A B) (k : Sub B C) : Sub A C := fun b o e => k b o (h b o e)
theorem Sub.rd {G H : Hp} (h : Sub G H) {a : Addr} {u : HO} (r : Rd G a u) : Rd H a u := by
  rcases r with r | ⟨o, r⟩
  · exact .inl (h _ _ r)
  · exact .inr ⟨o, h _ _ r⟩
theorem Sub.sql {K : PySem.W.Frag} {G H : Hp} (h : Sub G H) {a : Addr} {xs : List V} (r : SqL K G a xs) : SqL K H a xs := by
  rcases r with r | r
  · exact .inl (h.rd r)
  · exact .inr r
theorem Sub.sqt {K : PySem.W.Frag} {G H : Hp} (h : Sub G H) {a : Addr} {xs : List V} (r : SqT K G a xs) : SqT K H a xs := by
  rcases r with r | r
  · exact .inl (h.rd r)
  · exact .inr r
theorem Sub.pt {K : PySem.W.Frag} {G H : Hp} (h : Sub G H) {a : Addr} {xs : List V} (r : G a = some (.tup xs)) : SqT K H a xs := SqT.of (h a _ r)
theorem Sub.upd {H : Hp} {a : Addr} {o : HO} (h : H a = none) : Sub H (upd H a o) := fun b u e => by
  rw [upd_ne (ne_of_none e h)]; exact e
theorem Sub.free {G H : Hp} (h : Sub G H) {a : Addr} (e : H a = none) : G a = none := by
  cases q : G a with
  | none => rfl
  | some o => rw [h _ _ q] at e; cases e

mutual
theorem Rep.mono {K : PySem.W.Frag} {G H : Hp} (h : Sub G H) : ∀ {d : D} {v : V}, Rep K G d v → Rep K H d v
  | .non, _, e => e
  | .bl _, _, e => e
  | .int _, _, e => e
  | .str _, _, e => e
  | .obj _, _, e => e
  | .tup _, _, ⟨a, vs, e, s, r⟩ => ⟨a, vs, e, h a _ s, RepL.mono h r⟩
  | .con _, _, ⟨a, vs, e, s, r⟩ => ⟨a, vs, e, h.sqt s, RepL.mono h r⟩
  | .lst _, _, ⟨a, vs, e, s, r⟩ => ⟨a, vs, e, h.sql s, RepL.mono h r⟩
  | .dct _ _, _, ⟨a, e, .inl ⟨t0, od, ps, s, k, r⟩⟩ => ⟨a, e, .inl ⟨t0, od, ps, h a _ s, k, RepV.mono h r⟩⟩
  | .dct _ _, _, ⟨a, e, .inr ⟨t0, od, ps, s, k, r⟩⟩ => ⟨a, e, .inr ⟨t0, od, ps, h a _ s, k, RepV.mono h r⟩⟩
theorem RepL.mono {K : PySem.W.Frag} {G H : Hp} (h : Sub G H) : ∀ {ds : List D} {vs : List V}, RepL K G ds vs → RepL K H ds vs
  | [], _, e => e
  | _ :: _, _, ⟨v, r, e, x, y⟩ => ⟨v, r, e, Rep.mono h x, RepL.mono h y⟩
theorem RepV.mono {K : PySem.W.Frag} {G H : Hp} (h : Sub G H) : ∀ {ds : List (D × D)} {vs : List V}, RepV K G ds vs → RepV K H ds vs
  | [], _, e => e
  | (_, _) :: _, _, ⟨v, r, e, x, y⟩ => ⟨v, r, e, Rep.mono h x, RepV.mono h y⟩
end

section
variable {K : PySem.W.Frag} {G : Hp}
theorem RepL.nil : RepL K G [] [] := rfl
theorem RepL.cons {d : D} {v : V} {ds : List D} {vs : List V} (h : Rep K G d v) (t : RepL K G ds vs) : RepL K G (d :: ds) (v :: vs) := ⟨v, vs, rfl, h, t⟩
theorem RepL.length : ∀ {ds : List D} {vs : List V}, RepL K G ds vs → vs.length = ds.length
  | [], _, e => by rw [show _ = [] from e]; rfl
  | _ :: _, _, ⟨v, r, e, x, y⟩ => by rw [e, List.length_cons, List.length_cons, RepL.length y]
theorem RepL.get : ∀ {ds : List D} {vs : List V} {i : Nat} {d : D}, RepL K G ds vs → ds[i]? = some d → ∃ v, vs[i]? = some v ∧ Rep K G d v
  | _ :: _, _, 0, _, ⟨v, r, e, x, y⟩, h => by cases h; exact ⟨v, by rw [e]; rfl, x⟩
  | _ :: _, _, i + 1, d, ⟨v, r, e, x, y⟩, h => by
    obtain ⟨w, h1, h2⟩ := RepL.get (i := i) (d := d) y (by simpa using h)
    exact ⟨w, by rw [e]; simpa using h1, h2⟩
theorem RepL.get' : ∀ {ds : List D} {vs : List V} {i : Nat} {v : V}, RepL K G ds vs → vs[i]? = some v → ∃ d, ds[i]? = some d ∧ Rep K G d v
  | [], _, i, v, e, h => by rw [show _ = [] from e] at h; simp at h
  | d :: _, _, 0, v, ⟨w, r, e, x, y⟩, h => by rw [e] at h; cases h; exact ⟨d, rfl, x⟩
  | _ :: _, _, i + 1, v, ⟨w, r, e, x, y⟩, h => by
    rw [e] at h
    obtain ⟨d, h1, h2⟩ := RepL.get' (i := i) (v := v) y (by simpa using h)
    exact ⟨d, by simpa using h1, h2⟩
theorem RepL.append : ∀ {ds es : List D} {vs ws : List V}, RepL K G ds vs → RepL K G es ws → RepL K G (ds ++ es) (vs ++ ws)
  | [], _, _, _, e, t => by rw [show _ = [] from e]; exact t
  | _ :: _, _, _, _, ⟨v, r, e, x, y⟩, t => by rw [e]; exact ⟨v, _, rfl, x, RepL.append y t⟩
theorem RepL.drop : ∀ {ds : List D} {vs : List V} (n : Nat), RepL K G ds vs → RepL K G (ds.drop n) (vs.drop n)
  | _, _, 0, h => h
  | [], _, n + 1, e => by rw [show _ = [] from e]; rfl
  | _ :: _, _, n + 1, ⟨v, r, e, x, y⟩ => by rw [e]; exact RepL.drop n y
theorem RepL.take : ∀ {ds : List D} {vs : List V} (n : Nat), RepL K G ds vs → RepL K G (ds.take n) (vs.take n)
  | _, _, 0, h => rfl
  | [], _, n + 1, e => by rw [show _ = [] from e]; rfl
  | _ :: _, _, n + 1, ⟨v, r, e, x, y⟩ => by rw [e]; exact ⟨v, _, rfl, x, RepL.take n y⟩
theorem RepL.set {d : D} {v : V} (h : Rep K G d v) : ∀ {ds : List D} {vs : List V} (n : Nat), RepL K G ds vs → RepL K G (ds.set n d) (vs.set n v)
  | [], _, n, e => by rw [show _ = [] from e]; rfl
  | _ :: _, _, 0, ⟨w, r, e, x, y⟩ => by rw [e]; exact ⟨v, r, rfl, h, y⟩
  | _ :: _, _, n + 1, ⟨w, r, e, x, y⟩ => by rw [e]; exact ⟨w, _, rfl, x, RepL.set h n y⟩
theorem RepL.ints : ∀ {ns : List Int} {vs : List V}, RepL K G (ns.map D.int) vs → vs = ns.map V.int
  | [], _, e => e
  | _ :: _, _, ⟨v, r, e, x, y⟩ => by rw [e, show v = _ from x, RepL.ints y]; rfl
theorem RepL.of_ints : ∀ (ns : List Int), RepL K G (ns.map D.int) (ns.map V.int)
  | [] => rfl
  | n :: ns => ⟨_, _, rfl, rfl, RepL.of_ints ns⟩
theorem RepL.bls : ∀ {ns : List Bool} {vs : List V}, RepL K G (ns.map D.bl) vs → vs = ns.map V.bl
  | [], _, e => e
  | _ :: _, _, ⟨v, r, e, x, y⟩ => by rw [e, show v = _ from x, RepL.bls y]; rfl
theorem Rep.tup {a : Addr} {ds : List D} {vs : List V} (h : G a = some (.tup vs)) (r : RepL K G ds vs) : Rep K G (.tup ds) (.ref a) := ⟨a, vs, rfl, h, r⟩
theorem Rep.lst {a : Addr} {ds : List D} {vs : List V} (h : SqL K G a vs) (r : RepL K G ds vs) : Rep K G (.lst ds) (.ref a) := ⟨a, vs, rfl, h, r⟩
end

def D.isDct : D → Bool
  | .dct _ _ => true
  | _ => false
/-- a value whose outer list or dict is read in H, its items in G -/
def RepC (K : PySem.W.Frag) (H G : Hp) : D → V → Prop
  | .lst ds, v => ∃ a vs, v = .ref a ∧ SqL K H a vs ∧ RepL K G ds vs
  | .dct t kvs, v => ∃ a, v = .ref a ∧ ((t = false ∧ ∃ ps, Rd H a (.dK ps) ∧ kvs.map (·.1) = ps.map (fun p => keyD p.1) ∧ RepV K G kvs (ps.map (·.2))) ∨
      (t = true ∧ ∃ ps, Rd H a (.dT ps) ∧ kvs.map (·.1) = ps.map (fun p => keyT p.1) ∧ RepV K G kvs (ps.map (·.2))))
  | d, v => Rep K G d v
theorem Rep.c {K : PySem.W.Frag} {G H : Hp} (h : Sub G H) : ∀ {d : D} {v : V}, Rep K G d v → RepC K H G d v
  | .non, _, e => e
  | .bl _, _, e => e
  | .int _, _, e => e
  | .str _, _, e => e
  | .obj _, _, e => e
  | .tup _, _, e => e
  | .con _, _, e => e
  | .lst _, _, ⟨a, vs, e, s, r⟩ => ⟨a, vs, e, h.sql s, r⟩
  | .dct _ _, _, ⟨a, e, .inl ⟨t0, od, ps, s, k, r⟩⟩ => ⟨a, e, .inl ⟨t0, ps, .inr ⟨od, h a _ s⟩, k, r⟩⟩
  | .dct _ _, _, ⟨a, e, .inr ⟨t0, od, ps, s, k, r⟩⟩ => ⟨a, e, .inr ⟨t0, ps, .inr ⟨od, h a _ s⟩, k, r⟩⟩
theorem RepC.all {K : PySem.W.Frag} {G H : Hp} (h : Sub G H) : ∀ {d : D} {v : V}, RepC K H G d v → d.isDct = false → Rep K H d v
  | .non, _, e, _ => e
  | .bl _, _, e, _ => e
  | .int _, _, e, _ => e
  | .str _, _, e, _ => e
  | .obj _, _, e, _ => e
  | .tup _, _, e, _ => Rep.mono h e
  | .con _, _, e, _ => Rep.mono h e
  | .lst _, _, ⟨a, vs, e, s, r⟩, _ => ⟨a, vs, e, s, RepL.mono h r⟩
  | .dct _ _, _, _, n => by cases n
theorem RepC.mono {K : PySem.W.Frag} {G H G' H' : Hp} (h : Sub H H') (g : Sub G G') : ∀ {d : D} {v : V}, RepC K H G d v → RepC K H' G' d v
  | .non, _, e => e
  | .bl _, _, e => e
  | .int _, _, e => e
  | .str _, _, e => e
  | .obj _, _, e => e
  | .tup _, _, e => Rep.mono g e
  | .con _, _, e => Rep.mono g e
  | .lst _, _, ⟨a, vs, e, s, r⟩ => ⟨a, vs, e, h.sql s, RepL.mono g r⟩
  | .dct _ _, _, ⟨a, e, .inl ⟨t0, ps, s, k, r⟩⟩ => ⟨a, e, .inl ⟨t0, ps, h.rd s, k, RepV.mono g r⟩⟩
  | .dct _ _, _, ⟨a, e, .inr ⟨t0, ps, s, k, r⟩⟩ => ⟨a, e, .inr ⟨t0, ps, h.rd s, k, RepV.mono g r⟩⟩

/-- at a stands the list or dict d, that can be changed; its items in G -/
def OwnC (K : PySem.W.Frag) (H G : Hp) : D → Addr → Prop
  | .lst ds, a => ∃ vs, H a = some (.lst vs) ∧ RepL K G ds vs
  | .dct t kvs, a => (t = false ∧ ∃ ps, H a = some (.dK ps) ∧ kvs.map (·.1) = ps.map (fun p => keyD p.1) ∧ RepV K G kvs (ps.map (·.2))) ∨
      (t = true ∧ ∃ ps, H a = some (.dT ps) ∧ kvs.map (·.1) = ps.map (fun p => keyT p.1) ∧ RepV K G kvs (ps.map (·.2)))
  | _, _ => False
theorem OwnC.c {K : PySem.W.Frag} {H G : Hp} {d : D} {a : Addr} (h : OwnC K H G d a) : RepC K H G d (.ref a) := by
  cases d with
  | lst ds => obtain ⟨vs, e, r⟩ := h; exact ⟨a, vs, rfl, SqL.of e, r⟩
  | dct t kvs =>
    rcases h with ⟨t0, ps, e, k, r⟩ | ⟨t0, ps, e, k, r⟩
    · exact ⟨a, rfl, .inl ⟨t0, ps, .inl e, k, r⟩⟩
    · exact ⟨a, rfl, .inr ⟨t0, ps, .inl e, k, r⟩⟩
  | _ => exact h.elim
theorem OwnC.is {K : PySem.W.Frag} {H G : Hp} {d : D} {a : Addr} (h : OwnC K H G d a) : H a ≠ none := by
  cases d with
  | lst ds => obtain ⟨vs, e, r⟩ := h; rw [e]; simp
  | dct t kvs => rcases h with ⟨t0, ps, e, k, r⟩ | ⟨t0, ps, e, k, r⟩ <;> rw [e] <;> simp
  | _ => exact h.elim
theorem OwnC.mono' {K : PySem.W.Frag} {H H' G G' : Hp} {d : D} {a : Addr} (h : OwnC K H G d a) (e' : ∀ o, H a = some o → H' a = some o) (sg : Sub G G') : OwnC K H' G' d a := by
  cases d with
  | lst ds => obtain ⟨vs, e, r⟩ := h; exact ⟨vs, e' _ e, r.mono sg⟩
  | dct t kvs =>
    rcases h with ⟨t0, ps, e, k, r⟩ | ⟨t0, ps, e, k, r⟩
    · exact .inl ⟨t0, ps, e' _ e, k, r.mono sg⟩
    · exact .inr ⟨t0, ps, e' _ e, k, r.mono sg⟩
  | _ => exact h.elim
theorem OwnC.mono {K : PySem.W.Frag} {H H' G G' : Hp} {d : D} {a : Addr} (h : OwnC K H G d a) (sh : Sub H H') (sg : Sub G G') : OwnC K H' G' d a := h.mono' (fun o => sh a o) sg
theorem OwnC.put {K : PySem.W.Frag} {H G G' : Hp} {d : D} {a : Addr} (h : OwnC K H G d a) (nd : d.isDct = false) (sg : Sub G G') (e' : G' a = H a) : Rep K G' d (.ref a) := by
  cases d with
  | lst ds => obtain ⟨vs, e, r⟩ := h; exact ⟨a, vs, rfl, SqL.of (e'.trans e), r.mono sg⟩
  | dct t kvs => cases nd
  | _ => exact h.elim
/-- a dict that is locked is all men's -/
theorem OwnC.lock {K : PySem.W.Frag} {H G G' : Hp} {d : D} {a : Addr} (h : OwnC K H G d a) (nd : d.isDct = true) (sg : Sub G G') : ∃ u, H a = some u ∧ Mut (some u) ∧ ∀ od, G' a = some (.frz od u) → Rep K G' d (.ref a) := by
  cases d with
  | dct t kvs =>
    rcases h with ⟨t0, ps, e, k, r⟩ | ⟨t0, ps, e, k, r⟩
    · exact ⟨_, e, trivial, fun od q => ⟨a, rfl, .inl ⟨t0, od, ps, q, k, r.mono sg⟩⟩⟩
    · exact ⟨_, e, trivial, fun od q => ⟨a, rfl, .inr ⟨t0, od, ps, q, k, r.mono sg⟩⟩⟩
  | _ => cases nd
/-- things are locked, then P -/
inductive LockT (P : Hp → Prop) : Hp → Prop where
  | here {H : Hp} (h : P H) : LockT P H
  | lock {H : Hp} {d : Addr} {u : HO} (h : H d = some u) (mu : Mut (some u)) (k : ∀ od, LockT P (upd H d (.frz od u))) : LockT P H
theorem LockT.imp {P Q : Hp → Prop} {H : Hp} (h : LockT P H) (f : ∀ H, P H → Q H) : LockT Q H := by
  induction h with
  | here h => exact .here (f _ h)
  | lock h mu _ ih => exact .lock h mu ih
theorem LockT.bind {P Q : Hp → Prop} {H : Hp} (h : LockT P H) (f : ∀ H, P H → LockT Q H) : LockT Q H := by
  induction h with
  | here h => exact f _ h
  | lock h mu _ ih => exact .lock h mu ih
theorem LockT.inv {X : Cx} {pins : List (Addr × Obj)} {σ : L2.St} {s : Shared} {P : Hp → Prop} {H : Hp} (h : LockT P H) (I : Inv X pins σ H s) : ∃ H', Inv X pins σ H' s ∧ P H' := by
  induction h with
  | here h => exact ⟨_, I, h⟩
  | lock h mu _ ih =>
    obtain ⟨od, I1⟩ := I.lock h mu
    exact ih od I1
theorem _root_.L2.PE.lk {X : Cx} {e : Expr} {t t' : TE} (h : PE X e t) (f : ∀ σ H Q, t' σ H Q → LockT (fun H => t σ H Q) H) : PE X e t' := ⟨fun pins s σ H Q I q => by
  obtain ⟨H', I', q'⟩ := (f σ H Q q).inv I
  exact h.run pins s σ H' Q I' q'⟩
theorem _root_.L2.PE.lkP {X : Cx} {e : Expr} {t t' : TE} (h : PE X e t) (f : ∀ σ H Q, t' σ H Q → t σ H fun v H => LockT (Q v) H) : PE X e t' := ⟨fun pins s σ H Q I q =>
  thn (h.run pins s σ H _ I (f σ H Q q)) fun v s1 ⟨x, H1, I1, r, q⟩ => by
    obtain ⟨H2, I2, q2⟩ := q.inv I1
    exact ⟨x, H2, I2, r, q2⟩⟩
theorem _root_.L2.PS.lk {X : Cx} {e : Stmt} {t t' : TS} (h : PS X e t) (f : ∀ D σ H, t' D σ H → LockT (t D σ) H) : PS X e t' := ⟨fun pins s σ H D I q => by
  obtain ⟨H', I', q'⟩ := (f D σ H q).inv I
  exact h.run pins s σ H' D I' q'⟩
theorem _root_.L2.PSs.lk {X : Cx} {e : List Stmt} {t t' : TS} (h : PSs X e t) (f : ∀ D σ H, t' D σ H → LockT (t D σ) H) : PSs X e t' := ⟨fun pins s σ H D I q => by
  obtain ⟨H', I', q'⟩ := (f D σ H q).inv I
  exact h.run pins s σ H' D I' q'⟩
/-- .. what is given back is locked -/
theorem _root_.L2.PSs.lkR {X : Cx} {e : List Stmt} {t t' : TS} (h : PSs X e t) (f : ∀ D σ H, t' D σ H → t { D with rt := fun v H => LockT (D.rt v) H } σ H) : PSs X e t' := ⟨fun pins s σ H D I q =>
  thn (h.run pins s σ H _ I (f D σ H q)) fun fl s1 q => by
    cases fl with
    | next => exact q
    | brk => exact q
    | cont => exact q
    | ret v =>
      obtain ⟨x, σ', H', I2, r, q⟩ := q
      obtain ⟨H2, I3, q2⟩ := q.inv I2
      exact ⟨x, σ', H2, I3, r, q2⟩⟩

/-- where nothing stood, or a tuple -/
def Fr1 (H : Hp) (b : Addr) : Prop := H b = none ∨ ∃ vs, H b = some (.tup vs)
theorem Fr1.back {H H1 : Hp} {b : Addr} (s : Sub H H1) (h : Fr1 H1 b) : Fr1 H b := by
  cases q : H b with
  | none => exact .inl q
  | some o =>
    have := s _ _ q
    rcases h with h | ⟨vs, h⟩
    · rw [h] at this; cases this
    · rw [h] at this; cases this; exact .inr ⟨vs, q⟩
theorem OwnC.nfr {K : PySem.W.Frag} {H G : Hp} {d : D} {a : Addr} (h : OwnC K H G d a) : ¬ Fr1 H a := by
  intro z
  cases d with
  | lst ds =>
    obtain ⟨vs, e, r⟩ := h
    rcases z with z | ⟨ws, z⟩ <;> rw [e] at z <;> cases z
  | dct t kvs => rcases h with ⟨t0, ps, e, k, r⟩ | ⟨t0, ps, e, k, r⟩ <;> rcases z with z | ⟨ws, z⟩ <;> rw [e] at z <;> cases z
  | _ => exact h.elim
/-- behind a step: H to H', the part G to G' -/
structure Ext (H G H' G' : Hp) : Prop where
  hh : Sub H H'
  gg : Sub G G'
  gh : Sub G' H'
  new : ∀ b, G' b ≠ none → G b ≠ none ∨ Fr1 H b
theorem Ext.refl {H G : Hp} (g : Sub G H) : Ext H G H G := ⟨Sub.refl H, Sub.refl G, g, fun _ h => .inl h⟩
theorem Ext.trans {H G H1 G1 H2 G2 : Hp} (a : Ext H G H1 G1) (b : Ext H1 G1 H2 G2) : Ext H G H2 G2 :=
  ⟨a.hh.trans b.hh, a.gg.trans b.gg, b.gh, fun c h => by
    rcases b.new c h with z | z
    · exact a.new c z
    · exact .inr (z.back a.hh)⟩
/-- a new object that all may know -/
theorem Ext.laid {H G : Hp} {p : Addr} {o : HO} (g : Sub G H) (n : H p = none) : Ext H G (upd H p o) (upd G p o) :=
  ⟨Sub.upd n, Sub.upd (g.free n), fun b u e => by
    by_cases hb : b = p
    · subst hb; rw [upd_same] at e ⊢; exact e
    · rw [upd_ne hb] at e ⊢; exact g _ _ e, fun b h => by
    by_cases hb : b = p
    · subst hb; exact .inr (.inl n)
    · rw [upd_ne hb] at h; exact .inl h⟩

/-! ### exceptions -/
/-- which class value a class's name has; its fields' values -/
structure ExcKit where
  mg : Str → Option Value
def IsExc (K : PySem.W.Frag) (mg : Str → Option Value) (c : String) (fs : List D) (cls : Value) (o : Option Addr) (H : Hp) : Prop :=
  mg (Str.ofString c) = some cls ∧ match o with
    | none => fs = []
    | some d => fs ≠ [] ∧ ∃ ps, H d = some (.xd ps) ∧ RepL K H fs (ps.map (·.2))

/-! ### names -/
abbrev Sl := Option (D × Bool)
abbrev Env := List Sl
/-- the names' values, as a reckoning sees them: those at A may be kept -/
structure EnvG (K : PySem.W.Frag) (A : Nat → Prop) (σ : L2.St) (e : Env) (H G : Hp) : Prop where
  sub : Sub G H
  len : σ.length = e.length
  val : ∀ i d o, e[i]? = some (some (d, o)) → ∃ v, σ[i]? = some (some v) ∧ (A i ∨ o = false → Rep K G d v) ∧ RepC K H G d v
theorem EnvG.ext {K : PySem.W.Frag} {A : Nat → Prop} {σ : L2.St} {e : Env} {H G H' G' : Hp} (h : EnvG K A σ e H G) (x : Ext H G H' G') : EnvG K A σ e H' G' :=
  ⟨x.gh, h.len, fun i d o hi => let ⟨v, h1, h2, h3⟩ := h.val i d o hi; ⟨v, h1, fun z => (h2 z).mono x.gg, h3.mono x.hh x.gg⟩⟩

/-- what is wanted behind a reckoning -/
def PostG (K : PySem.W.Frag) (mg : Str → Option Value) (W : Value → Option Addr → Hp → Prop) (H G : Hp) {α : Type} (r : Res α) (R : α → Hp → Hp → Prop) : Prop := match r with
  | .ok a => ∀ H' G', Ext H G H' G' → R a H' G'
  | .exc c fs => ∀ cls o H', Sub H H' → IsExc K mg c fs cls o H' → W cls o H'
  | .bad => False
section
variable {K : PySem.W.Frag} {mg : Str → Option Value} {W : Value → Option Addr → Hp → Prop} {H G H' G' : Hp} {α β : Type}
theorem PostG.ext {r : Res α} {R : α → Hp → Hp → Prop} (h : PostG K mg W H G r R) (x : Ext H G H' G') : PostG K mg W H' G' r R := by
  cases r with
  | ok a => exact fun H2 G2 y => h H2 G2 (x.trans y)
  | exc c fs => exact fun cls o H2 y z => h cls o H2 (x.hh.trans y) z
  | bad => exact h
theorem PostG.imp {r : Res α} {R R' : α → Hp → Hp → Prop} (h : PostG K mg W H G r R) (f : ∀ a H' G', Ext H G H' G' → R a H' G' → R' a H' G') : PostG K mg W H G r R' := by
  cases r with
  | ok a => exact fun H2 G2 y => f a H2 G2 y (h H2 G2 y)
  | exc c fs => exact h
  | bad => exact h
theorem PostG.split {r : Res α} {f : α → Res β} {R : β → Hp → Hp → Prop} (h : PostG K mg W H G (r.bind f) R) : PostG K mg W H G r fun a H1 G1 => PostG K mg W H1 G1 (f a) R := by
  cases r with
  | ok a => exact fun H2 G2 y => PostG.ext (r := f a) h y
  | exc c fs => exact h
  | bad => exact h
theorem PostG.val {d : D} {Q : VK} (h : PostG K mg W H G (Res.ok d) fun d H' G' => ∀ v, Rep K G' d v → Q v H') (g : Sub G H) {v : V} (r : Rep K G d v) : Q v H := h H G (Ext.refl g) v r
theorem PostG.here {a : α} {R : α → Hp → Hp → Prop} (h : PostG K mg W H G (.ok a) R) (g : Sub G H) : R a H G := h H G (Ext.refl g)
end

theorem _root_.L2.PE.imp {X : Cx} {e : Expr} {t t' : TE} (h : PE X e t) (f : ∀ σ H Q, t' σ H Q → t σ H Q) : PE X e t' := ⟨fun pins s σ H Q I q => h.run pins s σ H Q I (f σ H Q q)⟩
theorem _root_.L2.PA.imp {X : Cx} {e : List Expr} {t t' : TA} (h : PA X e t) (f : ∀ σ H Q, t' σ H Q → t σ H Q) : PA X e t' := ⟨fun pos pins s σ H Q I q => h.run pos pins s σ H Q I (f σ H Q q)⟩
theorem _root_.L2.PT.imp {X : Cx} {e : Expr} {t t' : TT} (h : PT X e t) (f : ∀ σ H Q, t' σ H Q → t σ H Q) : PT X e t' := ⟨fun pins s σ H Q I q => h.run pins s σ H Q I (f σ H Q q)⟩
theorem _root_.L2.PW.imp {X : Cx} {e : Expr} {t t' : TT} (h : PW X e t) (f : ∀ σ H Q, t' σ H Q → t σ H Q) : PW X e t' := ⟨fun wh pins s σ H Q I q => h.run wh pins s σ H Q I (f σ H Q q)⟩
theorem _root_.L2.PS.imp {X : Cx} {e : Stmt} {t t' : TS} (h : PS X e t) (f : ∀ D σ H, t' D σ H → t D σ H) : PS X e t' := ⟨fun pins s σ H D I q => h.run pins s σ H D I (f D σ H q)⟩
theorem _root_.L2.PSs.imp {X : Cx} {e : List Stmt} {t t' : TS} (h : PSs X e t) (f : ∀ D σ H, t' D σ H → t D σ H) : PSs X e t' := ⟨fun pins s σ H D I q => h.run pins s σ H D I (f D σ H q)⟩
theorem _root_.L2.PI.imp {X : Cx} {tg e : Expr} {t t' : TI} (h : PI X tg e t) (f : ∀ σ H Q, t' σ H Q → t σ H Q) : PI X tg e t' := ⟨fun pins s σ H Q I q => h.run pins s σ H Q I (f σ H Q q)⟩

/-! ### the readings -/
section
variable (K : PySem.W.Frag) (mg : Str → Option Value) (W : WX) (A : Nat → Prop)
/-- a reckoning's value, kept by whoever has it -/
def tD (f : Env → Res D) : TE := fun σ H Q => ∃ e G, EnvG K A σ e H G ∧ PostG K mg (fun c o H' => W c o σ H') H G (f e) fun d H' G' => ∀ v, Rep K G' d v → Q v H'
/-- .. read alone -/
def tR (f : Env → Res D) : TE := fun σ H Q => ∃ e G, EnvG K A σ e H G ∧ PostG K mg (fun c o H' => W c o σ H') H G (f e) fun d H' G' => ∀ v, RepC K H' G' d v → Q v H'
/-- .. new, and of none else -/
def tF (f : Env → Res D) : TE := fun σ H Q => ∃ e G, EnvG K A σ e H G ∧ PostG K mg (fun c o H' => W c o σ H') H G (f e) fun d H' G' => ∀ a, H a = none → G' a = none → OwnC K H' G' d a → Q (.ref a) H'
def tDs (f : Env → Res (List D)) : TA := fun σ H Q => ∃ e G, EnvG K A σ e H G ∧ PostG K mg (fun c o H' => W c o σ H') H G (f e) fun ds H' G' => ∀ vs, RepL K G' ds vs → Q vs H'
def tT (f : Env → Res Bool) : TT := fun σ H Q => ∃ e G, EnvG K A σ e H G ∧ PostG K mg (fun c o H' => W c o σ H') H G (f e) fun b H' G' => Q b H'
end
section
variable {X : Cx} {W : WX} {A : Nat → Prop}
abbrev DE (X : Cx) (W : WX) (A : Nat → Prop) (ex : Expr) (f : Env → Res D) : Prop := PE X ex (tD X.K X.mg W A f)
abbrev DR (X : Cx) (W : WX) (A : Nat → Prop) (ex : Expr) (f : Env → Res D) : Prop := PE X ex (tR X.K X.mg W A f)
abbrev DF (X : Cx) (W : WX) (A : Nat → Prop) (ex : Expr) (f : Env → Res D) : Prop := PE X ex (tF X.K X.mg W A f)
abbrev DA (X : Cx) (W : WX) (A : Nat → Prop) (es : List Expr) (f : Env → Res (List D)) : Prop := PA X es (tDs X.K X.mg W A f)
abbrev DT (X : Cx) (W : WX) (A : Nat → Prop) (ex : Expr) (f : Env → Res Bool) : Prop := PT X ex (tT X.K X.mg W A f)
abbrev DW (X : Cx) (W : WX) (A : Nat → Prop) (ex : Expr) (f : Env → Res Bool) : Prop := PW X ex (tT X.K X.mg W A f)
/-- kept, so read -/
theorem dr {ex : Expr} {f : Env → Res D} (h : DE X W A ex f) : DR X W A ex f :=
  h.imp fun σ H Q ⟨e, G, E, p⟩ => ⟨e, G, E, p.imp fun d H' G' x q v r => q v (r.c x.gh)⟩
/-- new, so locked and all men's -/
theorem own_lock {K : PySem.W.Frag} {H G H' G' : Hp} {d : D} {a : Addr} (x : Ext H G H' G') (ha : H a = none) (ga : G' a = none) (rc : OwnC K H' G' d a) : LockT (fun H2 => ∃ G2, Ext H G H2 G2 ∧ Rep K G2 d (.ref a)) H' := by
  cases hd : d.isDct with
  | false =>
    have sg : Sub G' (fun b => if b = a then H' b else G' b) := fun b o q => by
      show (if b = a then H' b else G' b) = some o
      by_cases hb : b = a
      · subst hb; rw [ga] at q; cases q
      · rw [if_neg hb]; exact q
    have gaa : (fun b => if b = a then H' b else G' b : Hp) a = H' a := if_pos rfl
    refine .here ⟨fun b => if b = a then H' b else G' b, ⟨x.hh, x.gg.trans sg, fun b o q => ?_, fun b q => ?_⟩, rc.put hd sg gaa⟩
    · have q' : (if b = a then H' b else G' b) = some o := q
      by_cases hb : b = a
      · rw [if_pos hb] at q'; exact q'
      · rw [if_neg hb] at q'; exact x.gh _ _ q'
    · have q' : (if b = a then H' b else G' b) ≠ none := q
      by_cases hb : b = a
      · subst hb; exact .inr (.inl ha)
      · rw [if_neg hb] at q'; exact x.new b q'
  | true =>
    have sg : ∀ od u, Sub G' (upd G' a (.frz od u)) := fun od u => Sub.upd ga
    obtain ⟨u, hu, mu, _⟩ := rc.lock hd (Sub.refl G')
    refine .lock hu mu fun od => .here ⟨upd G' a (.frz od u), ⟨fun b o q => ?_, x.gg.trans (sg od u), fun b o q => ?_, fun b q => ?_⟩, ?_⟩
    · have nb : b ≠ a := fun z => by rw [z, ha] at q; cases q
      rw [upd_ne nb]; exact x.hh b o q
    · by_cases hb : b = a
      · subst hb; rw [upd_same] at q ⊢; exact q
      · rw [upd_ne hb] at q ⊢; exact x.gh b o q
    · by_cases hb : b = a
      · subst hb; exact .inr (.inl ha)
      · rw [upd_ne hb] at q; exact x.new b q
    · obtain ⟨u', hu', _, k⟩ := rc.lock hd (sg od u)
      rw [hu] at hu'; cases hu'
      exact k od upd_same
/-- new, so kept -/
theorem de_of {ex : Expr} {f : Env → Res D} (h : DF X W A ex f) : DE X W A ex f :=
  h.lkP fun σ H Q ⟨e, G, E, p⟩ => ⟨e, G, E, by
    cases hr : f e with
    | exc c fs => rw [hr] at p; exact p
    | bad => rw [hr] at p; exact p
    | ok d =>
      rw [hr] at p
      intro H' G' x a ha ga rc
      exact (own_lock x ha ga rc).imp fun H2 ⟨G2, y, r⟩ => p H2 G2 y (.ref a) r⟩

/-! ### names, constants -/
def eVar (i : Nat) : Env → Res D := fun e => match e[i]? with
  | some (some (d, _)) => .ok d
  | _ => .bad
def eC (d : D) : Env → Res D := fun _ => .ok d
theorem de_var {i : Nat} {x : Str} {pos : Pos} (hN : X.N[i]? = some x) (hv : Vis X.env.scope x) (hA : A i) (hd : (x == ("__debug__" : Str)) = false := by decide) (hcd : (x == ("__classdict__" : Str)) = false := by decide) : DE X W A (.Name x pos) (eVar i) :=
  (pe_var hN hv hd hcd).imp fun σ H Q ⟨e, G, E, p⟩ => by
    unfold eVar at p
    cases h : e[i]? with
    | none => rw [h] at p; exact p.elim
    | some s => cases s with
      | none => rw [h] at p; exact p.elim
      | some z =>
        obtain ⟨d, o⟩ := z
        rw [h] at p
        obtain ⟨v, h1, h2, h3⟩ := E.val i d o h
        exact ⟨v, h1, p.here E.sub v (h2 (.inl hA))⟩
/-- a name that is read alone -/
theorem dr_var {i : Nat} {x : Str} {pos : Pos} (hN : X.N[i]? = some x) (hv : Vis X.env.scope x) (hd : (x == ("__debug__" : Str)) = false := by decide) (hcd : (x == ("__classdict__" : Str)) = false := by decide) : DR X W A (.Name x pos) (eVar i) :=
  (pe_var hN hv hd hcd).imp fun σ H Q ⟨e, G, E, p⟩ => by
    unfold eVar at p
    cases h : e[i]? with
    | none => rw [h] at p; exact p.elim
    | some s => cases s with
      | none => rw [h] at p; exact p.elim
      | some z =>
        obtain ⟨d, o⟩ := z
        rw [h] at p
        obtain ⟨v, h1, h2, h3⟩ := E.val i d o h
        exact ⟨v, h1, p.here E.sub v h3⟩
theorem de_const {ex : Expr} {v : V} {d : D} (h : PE X ex (tC v)) (r : ∀ G, Rep X.K G d v) : DE X W A ex (eC d) :=
  h.imp fun σ H Q ⟨e, G, E, p⟩ => p.here E.sub v (r G)
theorem de_int {i j pos} : DE X W A (.Constant (.int i) j pos) (eC (.int i)) := de_const pe_int fun _ => rfl
theorem de_bl {b j pos} : DE X W A (.Constant (.bool b) j pos) (eC (.bl b)) := de_const pe_bl fun _ => rfl
theorem de_str {x j pos} : DE X W A (.Constant (.str x) j pos) (eC (.str x)) := de_const pe_str fun _ => rfl
/-- a module's constant -/
theorem de_glob {x : Str} {v : V} {u : Value} {d : D} {pos : Pos} (hg : Gl X x) (hm : X.mg x = some u) (r : RelV v u) (q : ∀ G, Rep X.K G d v) (hd : (x == ("__debug__" : Str)) = false := by decide) : DE X W A (.Name x pos) (eC d) :=
  de_const (pe_glob hg hm r hd) q

/-! ### operators on two values -/
def eOp (g : D → D → Res D) (fa fb : Env → Res D) : Env → Res D := fun e => (fa e).bind fun x => (fb e).bind fun y => g x y
/-- the operation f does on data what g says -/
def OpD (X : Cx) (W : WX) (f : Value → Value → Sem Value) (g : D → D → Res D) : Prop :=
  ∃ r, OpR X f r ∧ ∀ (σ : L2.St) (H G : Hp) (x y : V) (dx dy : D) (Q : VK), Sub G H → RepC X.K H G dx x → RepC X.K H G dy y →
    PostG X.K X.mg (fun c o H' => W c o σ H') H G (g dx dy) (fun d H' G' => ∀ v, Rep X.K G' d v → Q v H') → r x y H Q
theorem op_two {r : R2} {g : D → D → Res D} {fa fb : Env → Res D} {ta tb : TE} (hta : ta = tR X.K X.mg W A fa) (htb : tb = tR X.K X.mg W A fb)
    (h : ∀ (σ : L2.St) (H G : Hp) (x y : V) (dx dy : D) (Q : VK), Sub G H → RepC X.K H G dx x → RepC X.K H G dy y →
      PostG X.K X.mg (fun c o H' => W c o σ H') H G (g dx dy) (fun d H' G' => ∀ v, Rep X.K G' d v → Q v H') → r x y H Q) (σ : L2.St) (H : Hp) (Q : VK) (q : tD X.K X.mg W A (eOp g fa fb) σ H Q) : tOp r ta tb σ H Q := by
  subst hta htb
  obtain ⟨e, G, E, p⟩ := q
  refine ⟨e, G, E, p.split.imp fun dx H1 G1 x1 p1 v rv => ?_⟩
  refine ⟨e, G1, E.ext x1, p1.split.imp fun dy H2 G2 x2 p2 u ru => ?_⟩
  exact h σ H2 G2 v u dx dy Q x2.gh (rv.mono x2.hh x2.gg) ru p2
theorem de_bin {op : Operator} {a b : Expr} {fa fb : Env → Res D} {g : D → D → Res D} {pos : Pos} (ho : OpD X W (binaryOp op) g) (ha : DR X W A a fa) (hb : DR X W A b fb) : DE X W A (.BinOp a op b pos) (eOp g fa fb) := by
  obtain ⟨r, h1, h2⟩ := ho
  exact (pe_op h1 ha hb).imp (op_two rfl rfl h2)
theorem de_cmp {op : CmpOp} {a b : Expr} {fa fb : Env → Res D} {g : D → D → Res D} {pos : Pos} (ho : OpD X W (compareOp op) g) (ha : DR X W A a fa) (hb : DR X W A b fb) (hm : behindInMarks op b = false) : DE X W A (.Compare a [op] [b] pos) (eOp g fa fb) := by
  obtain ⟨r, h1, h2⟩ := ho
  exact (pe_cmpR h1 ha hb hm).imp (op_two rfl rfl h2)
end
end DL

namespace DL
open PySem PySem.Spec PyProof.Rows L2
open PySem.Builtin.Int (intBits)

/-! ### whole numbers -/
def big : Nat := 130000000
theorem mul_ok {i j : Int} (h : intBits i + intBits j ≤ big) : IntMulOk i j := by
  have e : bitsLine = 134217728 := by decide
  unfold IntMulOk
  intro z
  rw [Bool.and_eq_true] at z
  have z2 := z.2
  unfold Builtin.Int.intTooBig at z2
  have z3 := of_decide_eq_true z2
  rw [e] at z3
  have hb : big = 130000000 := rfl
  omega
section
variable {X : Cx} {W : WX}
/-- a rule for two values, where it is told of data -/
theorem OpD.or {f : Value → Value → Sem Value} {g1 g2 : D → D → Res D} (c : D → D → Bool) (h1 : OpD X W f g1) (h2 : OpD X W f g2) : OpD X W f fun x y => if c x y = true then g1 x y else g2 x y := by
  obtain ⟨r1, o1, q1⟩ := h1
  obtain ⟨r2, o2, q2⟩ := h2
  refine ⟨_, OpR.or o1 o2, fun σ H G x y dx dy Q sg rx ry p => ?_⟩
  dsimp only at p
  by_cases hc : c dx dy = true
  · rw [if_pos hc] at p; exact .inl (q1 σ H G x y dx dy Q sg rx ry p)
  · rw [if_neg hc] at p; exact .inr (q2 σ H G x y dx dy Q sg rx ry p)
theorem OpD.congr {f : Value → Value → Sem Value} {g1 g2 : D → D → Res D} (h : OpD X W f g1) (e : ∀ x y, g2 x y = .bad ∨ g2 x y = g1 x y) : OpD X W f g2 := by
  obtain ⟨r, o, q⟩ := h
  refine ⟨r, o, fun σ H G x y dx dy Q sg rx ry p => ?_⟩
  rcases e dx dy with z | z
  · rw [z] at p; exact p.elim
  · rw [z] at p; exact q σ H G x y dx dy Q sg rx ry p

/-- ints in, an int out -/
def gI (C : Int → Int → Bool) (g : Int → Int → Int) : D → D → Res D
  | .int i, .int j => if C i j = true then .ok (.int (g i j)) else .bad
  | _, _ => .bad
theorem od_I {f : Value → Value → Sem Value} {C : Int → Int → Bool} {g : Int → Int → Int}
    (rule : ∀ (i j : Int) (t u : Tok) (s : Shared) (Q : Value → Shared → Prop) (E : Value → Shared → Prop), C i j = true → Q (.int (g i j) s.toks) { s with toks := s.toks + 1 } → wpAny (model X.prog X.w) X.A (f (.int i t) (.int j u)) Q E s) :
    OpD X W f (gI C g) := by
  refine ⟨rI (fun i j => C i j = true) fun i j => .int (g i j), opI rule, fun σ H G x y dx dy Q sg rx ry p => ?_⟩
  cases dx with
  | int i =>
    cases dy with
    | int j =>
      have rx' : x = .int i := rx
      have ry' : y = .int j := ry
      dsimp only [gI] at p
      by_cases hc : C i j = true
      · rw [if_pos hc] at p
        exact ⟨i, j, rx', ry', hc, p.here sg _ rfl⟩
      · rw [if_neg hc] at p
        exact p.elim
    | _ => exact (show False from p).elim
  | _ => cases dy <;> exact (show False from p).elim
def cT : Int → Int → Bool := fun _ _ => true
def cMul : Int → Int → Bool := fun i j => decide (intBits i + intBits j ≤ big)
def cDiv : Int → Int → Bool := fun _ j => decide (j ≠ 0 ∧ j.natAbs.log2 < 9000)
def cMod : Int → Int → Bool := fun _ j => decide (j ≠ 0)
def cPow : Int → Int → Bool := fun i j => decide (0 ≤ j ∧ (intBits i : Int) * j ≤ 2 ^ 27)
theorem od_subI : OpD X W (binaryOp .Sub) (gI cT fun i j => i - j) := od_I fun _ _ _ _ _ _ _ _ q => sub_int q
theorem od_mulI : OpD X W (binaryOp .Mult) (gI cMul fun i j => i * j) := od_I fun _ _ _ _ _ _ _ c q => mul_int q (mul_ok (of_decide_eq_true c))
theorem od_divI : OpD X W (binaryOp .FloorDiv) (gI cDiv fun i j => i.fdiv j) := od_I fun _ _ _ _ _ _ _ c q =>
  have c' := of_decide_eq_true c
  floordiv_int c'.1 q (.inl (PyProof.noPylong_of_log2 c'.2))
theorem od_modI : OpD X W (binaryOp .Mod) (gI cMod fun i j => i.fmod j) := od_I fun _ _ _ _ _ _ _ c q => mod_int' (of_decide_eq_true c) q
theorem od_powI : OpD X W (binaryOp .Pow) (gI cPow fun i j => i ^ j.toNat) := od_I fun _ _ _ _ _ _ _ c q =>
  have c' := of_decide_eq_true c
  pow_int c'.1 c'.2 q
/-! ### + of texts, tuples, lists -/
def dAdd : D → D → Res D
  | .int i, .int j => .ok (.int (i + j))
  | .str a, .str b => if a.length + b.length ≤ sizeLine then .ok (.str (a ++ b)) else .bad
  | .tup a, .tup b => if a.length + b.length ≤ sizeLine then .ok (.tup (a ++ b)) else .bad
  | .lst a, .lst b => if a.length + b.length ≤ sizeLine then .ok (.lst (a ++ b)) else .bad
  | _, _ => .bad
/-- a + b of lists that are read -/
def rCatR (K : PySem.W.Frag) : R2 := fun x y H Q => ∃ l b xs zs, x = .ref l ∧ y = .ref b ∧ SqL K H l xs ∧ SqL K H b zs ∧ xs.length + zs.length ≤ sizeLine ∧ ∀ p, H p = none → Q (.ref p) (upd H p (.lst (xs ++ zs)))
theorem op_catR : OpR X (binaryOp .Add) (rCatR X.K) := by
  intro pins s σ H x y v u Q I rx ry h
  obtain ⟨l, b, xs, zs, rfl, rfl, hH, hB, hz, q⟩ := h
  cases rx
  cases ry
  obtain ⟨its, r, ⟨⟨cls, dd, data, sl⟩, n, ho, hc, hdd, hd⟩, _⟩ := I.list hH
  obtain ⟨its2, r2, ⟨⟨cls2, dd2, data2, sl2⟩, n2, ho2, hc2, hdd2, hd2⟩, _⟩ := I.list hB
  simp only at hc hd hc2 hd2
  subst hc hd hc2 hd2
  have l1 := r.length
  have l2 := r2.length
  have e : its.toArray ++ its2.toArray = (its ++ its2).toArray := by simp
  refine concat_meets ⟨_, ho, rfl⟩ ⟨_, ho2, rfl⟩ noFill_list_add seq_list_add PySem.F.slot_list_add PySem.F.entry_list_add (PySem.F.args_list_add_2 _ _) (list_addW l b its.toArray its2.toArray n n2 dd dd2 sl sl2 (by simp; omega)) ⟨ho, ho2, ?_⟩
  rw [e]
  exact ⟨.ref _, _, I.lnew (t' := s.toks) (r.append r2) (by rw [List.length_append]; omega), rfl, q _ I.fresh⟩
theorem op_addS' : OpR X (binaryOp .Add) (fun x y H Q => ∃ i j, x = .str i ∧ y = .str j ∧ i.length + j.length ≤ sizeLine ∧ Q (.str (i ++ j)) H) := op_add_str
theorem od_add : OpD X W (binaryOp .Add) dAdd := by
  refine ⟨_, OpR.or op_add (OpR.or op_addS' (OpR.or op_catA op_catR)), fun σ H G x y dx dy Q sg rx ry p => ?_⟩
  cases dx with
  | int i =>
    cases dy with
    | int j => exact .inl ⟨i, j, rx, ry, PostG.val (d := .int (i + j)) p sg rfl⟩
    | _ => exact (show False from p).elim
  | str i =>
    cases dy with
    | str j =>
      dsimp only [dAdd] at p
      by_cases hc : i.length + j.length ≤ sizeLine
      · rw [if_pos hc] at p
        exact .inr (.inl ⟨i, j, rx, ry, hc, p.here sg _ rfl⟩)
      · rw [if_neg hc] at p; exact p.elim
    | _ => exact (show False from p).elim
  | tup i =>
    cases dy with
    | tup j =>
      dsimp only [dAdd] at p
      by_cases hc : i.length + j.length ≤ sizeLine
      · rw [if_pos hc] at p
        obtain ⟨a, vs, e1, s1, r1⟩ := (show Rep X.K G (.tup i) x from rx)
        obtain ⟨b, ws, e2, s2, r2⟩ := (show Rep X.K G (.tup j) y from ry)
        refine .inr (.inr (.inl ⟨a, b, vs, ws, e1, e2, sg.pt s1, sg.pt s2, by rw [r1.length, r2.length]; exact hc, fun z => ?_, fun z1 z2 => ?_, fun z1 z2 q hq => ?_⟩))
        · subst z
          refine p.here sg _ ⟨b, ws, rfl, s2, ?_⟩
          cases i with
          | nil => exact r2
          | cons d ds => obtain ⟨_, _, e, _⟩ := r1; cases e
        · subst z2
          refine p.here sg _ ⟨a, vs, rfl, s1, ?_⟩
          cases j with
          | nil => rw [List.append_nil]; exact r1
          | cons d ds => obtain ⟨_, _, e, _⟩ := r2; cases e
        · exact p _ _ (Ext.laid sg hq) _ ⟨q, _, rfl, upd_same, (r1.append r2).mono (Sub.upd (sg.free hq))⟩
      · rw [if_neg hc] at p; exact p.elim
    | _ => exact (show False from p).elim
  | lst i =>
    cases dy with
    | lst j =>
      dsimp only [dAdd] at p
      by_cases hc : i.length + j.length ≤ sizeLine
      · rw [if_pos hc] at p
        obtain ⟨a, vs, e1, s1, r1⟩ := rx
        obtain ⟨b, ws, e2, s2, r2⟩ := ry
        refine .inr (.inr (.inr ⟨a, b, vs, ws, e1, e2, s1, s2, by rw [r1.length, r2.length]; exact hc, fun q hq => ?_⟩))
        exact p _ _ (Ext.laid sg hq) _ ⟨q, _, rfl, SqL.of upd_same, (r1.append r2).mono (Sub.upd (sg.free hq))⟩
      · rw [if_neg hc] at p; exact p.elim
    | _ => exact (show False from p).elim
  | _ => exact (show False from p).elim

/-! ### * -/
def dMul : D → D → Res D
  | .int i, .int j => if intBits i + intBits j ≤ big then .ok (.int (i * j)) else .bad
  | _, _ => .bad
theorem od_mul : OpD X W (binaryOp .Mult) dMul := od_mulI.congr fun x y => by
  cases x <;> cases y <;> first
    | exact .inl rfl
    | exact .inr (by simp [dMul, gI, cMul])
def dSub : D → D → Res D
  | .int i, .int j => .ok (.int (i - j))
  | _, _ => .bad
theorem od_sub : OpD X W (binaryOp .Sub) dSub := od_subI.congr fun x y => by
  cases x <;> cases y <;> first
    | exact .inl rfl
    | exact .inr (by simp [dSub, gI, cT])
def dDiv : D → D → Res D
  | .int i, .int j => if j ≠ 0 ∧ j.natAbs.log2 < 9000 then .ok (.int (i.fdiv j)) else .bad
  | _, _ => .bad
theorem od_div : OpD X W (binaryOp .FloorDiv) dDiv := od_divI.congr fun x y => by
  cases x <;> cases y <;> first
    | exact .inl rfl
    | exact .inr (by simp [dDiv, gI, cDiv])
def dMod : D → D → Res D
  | .int i, .int j => if j ≠ 0 then .ok (.int (i.fmod j)) else .bad
  | _, _ => .bad
theorem od_mod : OpD X W (binaryOp .Mod) dMod := od_modI.congr fun x y => by
  cases x <;> cases y <;> first
    | exact .inl rfl
    | exact .inr (by simp [dMod, gI, cMod])
def dPow : D → D → Res D
  | .int i, .int j => if 0 ≤ j ∧ (intBits i : Int) * j ≤ 2 ^ 27 then .ok (.int (i ^ j.toNat)) else .bad
  | _, _ => .bad
theorem od_pow : OpD X W (binaryOp .Pow) dPow := od_powI.congr fun x y => by
  cases x <;> cases y <;> first
    | exact .inl rfl
    | exact .inr (by simp [dPow, gI, cPow])

end

/-! ### == of data -/
mutual
def D.py : D → PyData
  | .non => .none
  | .bl b => .bool b
  | .int i => .int i
  | .str x => .str x
  | .obj _ => .none
  | .tup xs => .tuple (D.pys xs)
  | .lst xs => .list (D.pys xs)
  | .dct _ _ => .none
  | .con xs => .tuple (D.pys xs)
def D.pys : List D → List PyData
  | [] => []
  | d :: r => D.py d :: D.pys r
end
mutual
/-- without dicts and objects; texts that are texts; at most so deep -/
def D.pl : D → Nat → Bool
  | .non, _ => true
  | .bl _, _ => true
  | .int _, _ => true
  | .str x, _ => PyData.strOk x
  | .obj _, _ => false
  | .tup xs, n => match n with
    | 0 => false
    | n + 1 => D.pls xs n
  | .lst xs, n => match n with
    | 0 => false
    | n + 1 => D.pls xs n
  | .dct _ _, _ => false
  | .con xs, n => match n with
    | 0 => false
    | n + 1 => D.pls xs n
def D.pls : List D → Nat → Bool
  | [], _ => true
  | d :: r, n => D.pl d n && D.pls r n
end
theorem pl_nd {d : D} {n : Nat} (h : d.pl n = true) : d.isDct = false := by
  cases d with
  | dct t kvs => simp [D.pl] at h
  | _ => rfl
mutual
theorem py_can : ∀ (d : D) (n : Nat), d.pl n = true → d.py.canLay0 = true ∧ d.py.depth ≤ n
  | .non, n, _ => ⟨by simp [D.py, PyData.canLay0], by simp [D.py, PyData.depth]⟩
  | .bl _, n, _ => ⟨by simp [D.py, PyData.canLay0], by simp [D.py, PyData.depth]⟩
  | .int _, n, _ => ⟨by simp [D.py, PyData.canLay0], by simp [D.py, PyData.depth]⟩
  | .str _, n, h => ⟨by simpa [D.py, PyData.canLay0, D.pl] using h, by simp [D.py, PyData.depth]⟩
  | .obj _, n, h => by simp [D.pl] at h
  | .dct _ _, n, h => by simp [D.pl] at h
  | .con xs, 0, h => by simp [D.pl] at h
  | .con xs, n + 1, h => by
    have := pys_can xs n (by simpa [D.pl] using h)
    exact ⟨by simpa [D.py, PyData.canLay0] using this.1, by simp [D.py, PyData.depth]; exact this.2⟩
  | .tup xs, 0, h => by simp [D.pl] at h
  | .lst xs, 0, h => by simp [D.pl] at h
  | .tup xs, n + 1, h => by
    have := pys_can xs n (by simpa [D.pl] using h)
    exact ⟨by simpa [D.py, PyData.canLay0] using this.1, by simp [D.py, PyData.depth]; exact this.2⟩
  | .lst xs, n + 1, h => by
    have := pys_can xs n (by simpa [D.pl] using h)
    exact ⟨by simpa [D.py, PyData.canLay0] using this.1, by simp [D.py, PyData.depth]; exact this.2⟩
theorem pys_can : ∀ (ds : List D) (n : Nat), D.pls ds n = true → PyData.canLayAll0 (D.pys ds) = true ∧ PyData.depthAll (D.pys ds) ≤ n
  | [], n, _ => ⟨by simp [D.pys, PyData.canLayAll0], by simp [D.pys, PyData.depthAll]⟩
  | d :: r, n, h => by
    have h' : d.pl n = true ∧ D.pls r n = true := by simpa [D.pls] using h
    have a := py_can d n h'.1
    have b := pys_can r n h'.2
    exact ⟨by simp [D.pys, PyData.canLayAll0, a.1, b.1], by simp only [D.pys, PyData.depthAll]; omega⟩
end
mutual
theorem Rep.dp {K : PySem.W.Frag} {H : Hp} : ∀ (d : D) (n : Nat) (v : V), d.pl n = true → Rep K H d v → Dp K H v d.py
  | .non, n, v, _, r => by rw [show v = .non from r]; exact .non
  | .bl b, n, v, _, r => by rw [show v = .bl b from r]; exact .bl b
  | .int i, n, v, _, r => by rw [show v = .int i from r]; exact .int i
  | .str x, n, v, _, r => by rw [show v = .str x from r]; exact .str x
  | .obj _, n, v, h, r => by simp [D.pl] at h
  | .dct _ _, n, v, h, r => by simp [D.pl] at h
  | .con xs, 0, v, h, r => by simp [D.pl] at h
  | .con xs, n + 1, v, h, r => by
    obtain ⟨a, vs, e, s, q⟩ := r
    subst e
    exact .tup s (RepL.dp xs n vs (by simpa [D.pl] using h) q)
  | .tup xs, 0, v, h, r => by simp [D.pl] at h
  | .lst xs, 0, v, h, r => by simp [D.pl] at h
  | .tup xs, n + 1, v, h, r => by
    obtain ⟨a, vs, e, s, q⟩ := r
    subst e
    exact .tup (SqT.of s) (RepL.dp xs n vs (by simpa [D.pl] using h) q)
  | .lst xs, n + 1, v, h, r => by
    obtain ⟨a, vs, e, s, q⟩ := r
    subst e
    exact .lst s (RepL.dp xs n vs (by simpa [D.pl] using h) q)
theorem RepL.dp {K : PySem.W.Frag} {H : Hp} : ∀ (ds : List D) (n : Nat) (vs : List V), D.pls ds n = true → RepL K H ds vs → DpAll K H vs (D.pys ds)
  | [], n, vs, _, r => by rw [show vs = [] from r]; exact .nil
  | d :: ds, n, vs, h, r => by
    obtain ⟨v, t, e, a, b⟩ := r
    subst e
    have h' : d.pl n = true ∧ D.pls ds n = true := by simpa [D.pls] using h
    exact .cons (Rep.dp d n v h'.1 a) (RepL.dp ds n t h'.2 b)
end
theorem shaped_py {d : D} {n : Nat} (h : d.pl n = true) (hn : n ≤ 64) : SeqAt.shaped d.py = true := by
  have := py_can d n h
  unfold SeqAt.shaped
  rw [this.1, decide_eq_true (by omega : d.py.depth ≤ 64)]
  rfl
def D.beq (x y : D) : Bool := PyData.eqv x.py y.py
def dEq : D → D → Res D
  | .str a, .str b => .ok (.bl (decide (a = b)))
  | x, y => if x.pl 60 = true ∧ y.pl 60 = true then .ok (.bl (D.beq x y)) else .bad
def dNe : D → D → Res D
  | .str a, .str b => .ok (.bl (!decide (a = b)))
  | x, y => if x.pl 60 = true ∧ y.pl 60 = true then .ok (.bl (!D.beq x y)) else .bad
section
variable {X : Cx} {W : WX}
theorem od_eq (hu : X.A.units + 64 < cLine) : OpD X W (compareOp .Eq) dEq := by
  refine ⟨_, OpR.or op_eq (op_eqD hu), fun σ H G x y dx dy Q sg rx ry p => ?_⟩
  have gen : PostG X.K X.mg (fun c o H' => W c o σ H') H G (if dx.pl 60 = true ∧ dy.pl 60 = true then .ok (.bl (D.beq dx dy)) else .bad) (fun d H' G' => ∀ v, Rep X.K G' d v → Q v H') → rEq x y H Q ∨ rEqD X.K x y H Q := fun p => by
    by_cases hc : dx.pl 60 = true ∧ dy.pl 60 = true
    · rw [if_pos hc] at p
      exact .inr ⟨dx.py, dy.py, Rep.dp dx 60 x hc.1 (rx.all sg (pl_nd hc.1)), Rep.dp dy 60 y hc.2 (ry.all sg (pl_nd hc.2)), shaped_py hc.1 (by decide), shaped_py hc.2 (by decide), p.here sg _ rfl⟩
    · rw [if_neg hc] at p; exact p.elim
  cases dx with
  | str a =>
    cases dy with
    | str b =>
      have rx' : x = .str a := rx
      have ry' : y = .str b := ry
      subst rx' ry'
      refine .inl ⟨rfl, ?_⟩
      have q : Q (.bl (decide (a = b))) H := PostG.val (d := .bl (decide (a = b))) p sg rfl
      have e : decide (V.str a = V.str b) = decide (a = b) := by simp
      rw [e]; exact q
    | _ => exact gen p
  | _ => exact gen p
theorem od_ne (hu : X.A.units + 64 < cLine) : OpD X W (compareOp .NotEq) dNe := by
  refine ⟨_, OpR.or op_ne (op_neD hu), fun σ H G x y dx dy Q sg rx ry p => ?_⟩
  have gen : PostG X.K X.mg (fun c o H' => W c o σ H') H G (if dx.pl 60 = true ∧ dy.pl 60 = true then .ok (.bl (!D.beq dx dy)) else .bad) (fun d H' G' => ∀ v, Rep X.K G' d v → Q v H') → rNe x y H Q ∨ rNeD X.K x y H Q := fun p => by
    by_cases hc : dx.pl 60 = true ∧ dy.pl 60 = true
    · rw [if_pos hc] at p
      exact .inr ⟨dx.py, dy.py, Rep.dp dx 60 x hc.1 (rx.all sg (pl_nd hc.1)), Rep.dp dy 60 y hc.2 (ry.all sg (pl_nd hc.2)), shaped_py hc.1 (by decide), shaped_py hc.2 (by decide), p.here sg _ rfl⟩
    · rw [if_neg hc] at p; exact p.elim
  cases dx with
  | str a =>
    cases dy with
    | str b =>
      have rx' : x = .str a := rx
      have ry' : y = .str b := ry
      subst rx' ry'
      refine .inl ⟨rfl, ?_⟩
      have q : Q (.bl (!decide (a = b))) H := PostG.val (d := .bl (!decide (a = b))) p sg rfl
      have e : decide (V.str a = V.str b) = decide (a = b) := by simp
      rw [e]; exact q
    | _ => exact gen p
  | _ => exact gen p
end
/-! ### < of data -/
/-- the two can be compared -/
def D.cmpb (x y : D) : Bool := x.pl 60 && y.pl 60 && PySem.W.alike x.py y.py && (match x with | .non => false | _ => true)
/-- x < y, of data that can be compared -/
def D.lt (x y : D) : Bool := PySem.W.dataLt x.py y.py
def cmpD (f : D → D → Bool) (x y : D) : Res D := if D.cmpb x y = true then .ok (.bl (f x y)) else .bad
def dLt : D → D → Res D
  | .int i, .int j => .ok (.bl (decide (i < j)))
  | x, y => cmpD (fun x y => D.lt x y) x y
def dLe : D → D → Res D
  | .int i, .int j => .ok (.bl (decide (i ≤ j)))
  | x, y => cmpD (fun x y => !D.lt y x) x y
def dGt : D → D → Res D
  | .int i, .int j => .ok (.bl (decide (j < i)))
  | x, y => cmpD (fun x y => D.lt y x) x y
def dGe : D → D → Res D
  | .int i, .int j => .ok (.bl (decide (j ≤ i)))
  | x, y => cmpD (fun x y => !D.lt x y) x y
def rCmpD (K : PySem.W.Frag) (f : PyData → PyData → Bool) : R2 := fun x y H Q => ∃ d e, Dp K H x d ∧ Dp K H y e ∧ SeqAt.shaped d = true ∧ SeqAt.shaped e = true ∧ PySem.W.alike d e = true ∧ d ≠ .none ∧ Q (.bl (f d e)) H
theorem shaped_depth {d : PyData} (h : SeqAt.shaped d = true) : d.depth ≤ 64 := by
  unfold SeqAt.shaped at h
  rw [Bool.and_eq_true] at h
  exact of_decide_eq_true h.2
section
variable {X : Cx} {W : WX}
theorem op_ltD (hu : X.A.units + 64 < cLine) : OpR X (compareOp .Lt) (rCmpD X.K PySem.W.dataLt) := by
  intro pins s σ H x y v u Q I rx ry h
  obtain ⟨d, e, hd, he, sd, se, al, nn, q⟩ := h
  obtain ⟨as, r1⟩ := Dp.reads I d x v hd rx
  obtain ⟨bs, r2⟩ := Dp.reads I e y u he ry
  have := shaped_depth sd
  exact PySem.W.lt_data r1 r2 al nn (by omega) ⟨.bl _, H, I, rfl, q⟩
theorem op_gtD (hu : X.A.units + 64 < cLine) : OpR X (compareOp .Gt) (rCmpD X.K fun d e => PySem.W.dataLt e d) := by
  intro pins s σ H x y v u Q I rx ry h
  obtain ⟨d, e, hd, he, sd, se, al, nn, q⟩ := h
  obtain ⟨as, r1⟩ := Dp.reads I d x v hd rx
  obtain ⟨bs, r2⟩ := Dp.reads I e y u he ry
  have := shaped_depth sd
  exact PySem.W.gt_data r1 r2 al nn (by omega) ⟨.bl _, H, I, rfl, q⟩
theorem op_leD (hu : X.A.units + 64 < cLine) : OpR X (compareOp .LtE) (rCmpD X.K fun d e => !PySem.W.dataLt e d) := by
  intro pins s σ H x y v u Q I rx ry h
  obtain ⟨d, e, hd, he, sd, se, al, nn, q⟩ := h
  obtain ⟨as, r1⟩ := Dp.reads I d x v hd rx
  obtain ⟨bs, r2⟩ := Dp.reads I e y u he ry
  have := shaped_depth sd
  exact PySem.W.le_data r1 r2 al nn (by omega) ⟨.bl _, H, I, rfl, q⟩
theorem cmp_rep {K : PySem.W.Frag} {H G : Hp} {x y : V} {dx dy : D} (sg : Sub G H) (hc : D.cmpb dx dy = true) (rx : RepC K H G dx x) (ry : RepC K H G dy y) :
    Dp K H x dx.py ∧ Dp K H y dy.py ∧ SeqAt.shaped dx.py = true ∧ SeqAt.shaped dy.py = true ∧ PySem.W.alike dx.py dy.py = true ∧ dx.py ≠ .none := by
  unfold D.cmpb at hc
  simp only [Bool.and_eq_true] at hc
  obtain ⟨⟨⟨h1, h2⟩, h3⟩, h4⟩ := hc
  refine ⟨Rep.dp dx 60 x h1 (rx.all sg (pl_nd h1)), Rep.dp dy 60 y h2 (ry.all sg (pl_nd h2)), shaped_py h1 (by decide), shaped_py h2 (by decide), h3, ?_⟩
  cases dx with
  | non => cases h4
  | obj _ => simp [D.pl] at h1
  | dct _ _ => simp [D.pl] at h1
  | _ => simp [D.py]
theorem od_cmp {op : CmpOp} {g : D → D → Res D} {gi : Int → Int → Bool} {f : D → D → Bool} {fp : PyData → PyData → Bool} (o1 : OpR X (compareOp op) (rI0 fun i j => .bl (gi i j))) (o2 : OpR X (compareOp op) (rCmpD X.K fp)) (hf : ∀ x y, f x y = fp x.py y.py)
    (hg : ∀ x y, (∃ i j, x = .int i ∧ y = .int j ∧ g x y = .ok (.bl (gi i j))) ∨ g x y = cmpD f x y) : OpD X W (compareOp op) g := by
  refine ⟨_, OpR.or o1 o2, fun σ H G x y dx dy Q sg rx ry p => ?_⟩
  rcases hg dx dy with ⟨i, j, e1, e2, e3⟩ | e
  · subst e1 e2
    rw [e3] at p
    exact .inl ⟨i, j, rx, ry, PostG.val (d := .bl (gi i j)) p sg rfl⟩
  · rw [e] at p
    unfold cmpD at p
    by_cases hc : D.cmpb dx dy = true
    · rw [if_pos hc] at p
      obtain ⟨a1, a2, a3, a4, a5, a6⟩ := cmp_rep sg hc rx ry
      refine .inr ⟨_, _, a1, a2, a3, a4, a5, a6, ?_⟩
      rw [← hf]
      exact p.here sg _ rfl
    · rw [if_neg hc] at p; exact p.elim
theorem od_lt (hu : X.A.units + 64 < cLine) : OpD X W (compareOp .Lt) dLt := od_cmp op_lt (op_ltD hu) (fun _ _ => rfl) fun x y => by
  cases x <;> cases y <;> first
    | exact .inl ⟨_, _, rfl, rfl, rfl⟩
    | exact .inr rfl
theorem od_le (hu : X.A.units + 64 < cLine) : OpD X W (compareOp .LtE) dLe := od_cmp op_le (op_leD hu) (fun _ _ => rfl) fun x y => by
  cases x <;> cases y <;> first
    | exact .inl ⟨_, _, rfl, rfl, rfl⟩
    | exact .inr rfl
theorem od_gt (hu : X.A.units + 64 < cLine) : OpD X W (compareOp .Gt) dGt := od_cmp op_gt (op_gtD hu) (fun _ _ => rfl) fun x y => by
  cases x <;> cases y <;> first
    | exact .inl ⟨_, _, rfl, rfl, rfl⟩
    | exact .inr rfl
end
end DL

namespace DL
open PySem PySem.Spec PyProof.Rows L2
open PySem.Builtin.Int (intBits)

/-! ### tests -/
def D.asB : D → Res Bool
  | .bl b => .ok b
  | _ => .bad
/-- a value's truth -/
def D.truth : D → Res Bool
  | .non => .ok false
  | .bl b => .ok b
  | .int i => .ok (i != 0)
  | .str x => if x.length ≤ sizeLine then .ok ((x.length : Int) != 0) else .bad
  | .lst xs => .ok (!xs.isEmpty)
  | .tup xs => .ok (!xs.isEmpty)
  | _ => .bad
def bTest (g : D → D → Res D) (fa fb : Env → Res D) : Env → Res Bool := fun e => (fa e).bind fun x => (fb e).bind fun y => (g x y).bind D.asB
def bTruth (f : Env → Res D) : Env → Res Bool := fun e => (f e).bind D.truth
def bAnd (fa fb : Env → Res Bool) : Env → Res Bool := fun e => (fa e).bind fun b => if b = true then fb e else .ok false
def bOr (fa fb : Env → Res Bool) : Env → Res Bool := fun e => (fa e).bind fun b => if b = true then .ok true else fb e
def bNot (fa : Env → Res Bool) : Env → Res Bool := fun e => (fa e).bind fun b => .ok (!b)
section
variable {X : Cx} {W : WX} {A : Nat → Prop} {a b : Expr} {rest : List Expr} {pos : Pos}
theorem dt_cmp {op : CmpOp} {fa fb : Env → Res D} {g : D → D → Res D} (ho : OpD X W (compareOp op) g) (ha : DR X W A a fa) (hb : DR X W A b fb) (hm : behindInMarks op b = false) : DT X W A (.Compare a [op] [b] pos) (bTest g fa fb) := by
  obtain ⟨r, h1, h2⟩ := ho
  refine (pt_cmpR h1 ha hb hm).imp fun σ H Q ⟨e, G, E, p⟩ => ?_
  refine ⟨e, G, E, p.split.imp fun dx H1 G1 x1 p1 v rv => ⟨e, G1, E.ext x1, p1.split.imp fun dy H2 G2 x2 p2 u ru => ?_⟩⟩
  refine h2 σ H2 G2 v u dx dy _ x2.gh (rv.mono x2.hh x2.gg) ru (p2.split.imp fun d H3 G3 x3 p3 z rz => ?_)
  cases d with
  | bl k => exact ⟨k, rz, p3.here x3.gh⟩
  | _ => exact (show False from p3).elim
theorem truth_v {K : PySem.W.Frag} {H G : Hp} {d : D} {v : V} {k : Bool} (g : Sub G H) (r : RepC K H G d v) (h : d.truth = .ok k) : TruV K v H k := by
  cases d with
  | non => have : v = .non := r; subst this; cases h; rfl
  | bl b => have : v = .bl b := r; subst this; cases h; rfl
  | int i => have : v = .int i := r; subst this; cases h; rfl
  | str x =>
    have : v = .str x := r
    subst this
    dsimp only [D.truth] at h
    by_cases hc : x.length ≤ sizeLine
    · rw [if_pos hc] at h; cases h; exact ⟨hc, rfl⟩
    · rw [if_neg hc] at h; cases h
  | lst xs =>
    obtain ⟨p, vs, e, s, q⟩ := r
    subst e
    cases h
    refine .inl ⟨vs, s, ?_⟩
    have := q.length
    cases vs <;> cases xs <;> simp at this ⊢
  | tup xs =>
    obtain ⟨p, vs, e, s, q⟩ := (show Rep K G (.tup xs) v from r)
    subst e
    cases h
    refine .inr (.inl ⟨vs, g.pt s, ?_⟩)
    have := q.length
    cases vs <;> cases xs <;> simp at this ⊢
  | obj _ => cases h
  | con _ => cases h
  | dct _ _ => cases h
theorem dt_truth {f : Env → Res D} (ha : DR X W A a f) (he : ∀ whole, isTrue a X.env whole = (do let v ← whole; standAt a.pos; holding [v] (truthy v))) : DT X W A a (bTruth f) :=
  (pt_truth ha he).imp fun σ H Q ⟨e, G, E, p⟩ => ⟨e, G, E, p.split.imp fun d H1 G1 x1 p1 v rv => by
    cases ht : d.truth with
    | ok k => rw [ht] at p1; exact ⟨k, truth_v x1.gh rv ht, p1.here x1.gh⟩
    | exc c fs => exact absurd ht (by cases d <;> simp [D.truth] <;> split <;> simp)
    | bad => rw [ht] at p1; exact p1.elim⟩
theorem dw_or1 {fa : Env → Res Bool} (ha : DT X W A a fa) : DW X W A (.BoolOp .Or [a] pos) fa := pw_or1 ha
theorem dw_or {fa fb : Env → Res Bool} (ha : DT X W A a fa) (hb : DW X W A (.BoolOp .Or (b :: rest) pos) fb) : DW X W A (.BoolOp .Or (a :: b :: rest) pos) (bOr fa fb) :=
  (pw_or ha hb).imp fun σ H Q ⟨e, G, E, p⟩ => ⟨e, G, E, p.split.imp fun k H1 G1 x1 p1 => by
    cases k with
    | true => rw [if_pos rfl] at p1 ⊢; exact p1.here x1.gh
    | false => rw [if_neg Bool.false_ne_true] at p1 ⊢; exact ⟨e, G1, E.ext x1, p1⟩⟩
theorem dt_w {f : Env → Res Bool} (h : DW X W A a f) : DT X W A a f := h.pt
theorem dt_not {fa : Env → Res Bool} (ha : DT X W A a fa) : DT X W A (.UnaryOp .Not a pos) (bNot fa) :=
  (pt_not ha).imp fun σ H Q ⟨e, G, E, p⟩ => ⟨e, G, E, p.split.imp fun k H1 G1 x1 p1 => p1.here x1.gh⟩

/-! ### and, or, not, if-else as values -/
def eAnd (fa fb : Env → Res D) : Env → Res D := fun e => (fa e).bind fun x => (D.asB x).bind fun b => if b = true then fb e else .ok (.bl false)
def eOr (fa fb : Env → Res D) : Env → Res D := fun e => (fa e).bind fun x => (D.asB x).bind fun b => if b = true then .ok (.bl true) else fb e
def eNot (fa : Env → Res D) : Env → Res D := fun e => (fa e).bind fun x => (D.asB x).bind fun b => .ok (.bl (!b))
def eNeg (fa : Env → Res D) : Env → Res D := fun e => (fa e).bind fun x => match x with
  | .int i => .ok (.int (-i))
  | _ => .bad
def eIf (ft : Env → Res Bool) (fa fb : Env → Res D) : Env → Res D := fun e => (ft e).bind fun b => if b = true then fa e else fb e
theorem asB_of {K : PySem.W.Frag} {mg : Str → Option Value} {W : Value → Option Addr → Hp → Prop} {H G : Hp} {d : D} {α : Type} {f : Bool → Res α} {R : α → Hp → Hp → Prop} (p : PostG K mg W H G ((D.asB d).bind f) R) : ∃ b, d = .bl b ∧ PostG K mg W H G (f b) R := by
  cases d with
  | bl b => exact ⟨b, rfl, p⟩
  | _ => exact (show False from p).elim
theorem de_one {op} {f : Env → Res D} (h : DE X W A a f) : DE X W A (.BoolOp op [a] pos) f := pe_one h
theorem de_and {fa fb : Env → Res D} (ha : DE X W A a fa) (hb : DE X W A (.BoolOp .And (b :: rest) pos) fb) : DE X W A (.BoolOp .And (a :: b :: rest) pos) (eAnd fa fb) :=
  (pe_and ha hb).imp fun σ H Q ⟨e, G, E, p⟩ => ⟨e, G, E, p.split.imp fun x H1 G1 x1 p1 v rv => by
    obtain ⟨k, rfl, p2⟩ := asB_of p1
    refine ⟨k, rv, ?_⟩
    cases k with
    | true => rw [if_pos rfl] at p2 ⊢; exact ⟨e, G1, E.ext x1, p2⟩
    | false => rw [if_neg Bool.false_ne_true] at p2 ⊢; exact p2.val x1.gh rfl⟩
theorem de_not {fa : Env → Res D} (ha : DE X W A a fa) : DE X W A (.UnaryOp .Not a pos) (eNot fa) :=
  (pe_not ha).imp fun σ H Q ⟨e, G, E, p⟩ => ⟨e, G, E, p.split.imp fun x H1 G1 x1 p1 v rv => by
    obtain ⟨k, rfl, p2⟩ := asB_of p1
    exact ⟨k, rv, p2.val x1.gh rfl⟩⟩
theorem de_neg {fa : Env → Res D} (ha : DE X W A a fa) : DE X W A (.UnaryOp .USub a pos) (eNeg fa) :=
  (pe_un un_neg ha).imp fun σ H Q ⟨e, G, E, p⟩ => ⟨e, G, E, p.split.imp fun x H1 G1 x1 p1 v rv => by
    cases x with
    | int i => exact ⟨i, rv, PostG.val (d := .int (-i)) p1 x1.gh rfl⟩
    | _ => exact (show False from p1).elim⟩
/-- a op1 b op2 c -/
def eChain (g g' : D → D → Res D) (fa fb fc : Env → Res D) : Env → Res D := fun e => (fa e).bind fun x => (fb e).bind fun y => (g x y).bind fun z => (D.asB z).bind fun k =>
  if k = true then (fc e).bind fun w => g' y w else .ok (.bl false)
theorem de_chain {c : Expr} {op op' : CmpOp} {g g' : D → D → Res D} {fa fb fc : Env → Res D} (ho : OpD X W (compareOp op) g) (ho' : OpD X W (compareOp op') g') (ha : DR X W A a fa) (hb : DR X W A b fb) (hc : DR X W A c fc)
    (hm : lastMarks [op, op'] [b, c] = false := by with_unfolding_all rfl) : DE X W A (.Compare a [op, op'] [b, c] pos) (eChain g g' fa fb fc) := by
  obtain ⟨r, h1, h2⟩ := ho
  obtain ⟨r', h1', h2'⟩ := ho'
  refine (pe_chain h1 h1' ha hb hc hm).imp fun σ H Q ⟨e, G, E, p⟩ => ?_
  refine ⟨e, G, E, p.split.imp fun dx H1 G1 x1 p1 v rv => ⟨e, G1, E.ext x1, p1.split.imp fun dy H2 G2 x2 p2 u ru => ?_⟩⟩
  refine h2 σ H2 G2 v u dx dy _ x2.gh (rv.mono x2.hh x2.gg) ru (p2.split.imp fun d H3 G3 x3 p3 z rz => ?_)
  obtain ⟨k, rfl, p4⟩ := asB_of p3
  refine ⟨k, rz, ?_⟩
  cases k with
  | true =>
    rw [if_pos rfl] at p4 ⊢
    refine ⟨e, G3, ((E.ext x1).ext x2).ext x3, p4.split.imp fun dw H4 G4 x4 p5 w rw => ?_⟩
    exact h2' σ H4 G4 u w dy dw Q x4.gh ((ru.mono x3.hh x3.gg).mono x4.hh x4.gg) rw p5
  | false => rw [if_neg Bool.false_ne_true] at p4 ⊢; exact p4.val x3.gh rfl
def bVal (f : Env → Res D) : Env → Res Bool := fun e => (f e).bind D.asB
/-! ### argument lists, displays -/
def aNil : Env → Res (List D) := fun _ => .ok []
def aCons (f : Env → Res D) (fs : Env → Res (List D)) : Env → Res (List D) := fun e => (f e).bind fun d => (fs e).bind fun ds => .ok (d :: ds)
theorem da_nil : DA X W A [] aNil := pa_nil.imp fun σ H Q ⟨e, G, E, p⟩ => p.here E.sub [] rfl
theorem da_cons {es : List Expr} {f : Env → Res D} {fs : Env → Res (List D)} (ha : DE X W A a f) (hr : DA X W A es fs) (hs : starEach (a :: es) X.env = (false, eval a X.env) :: starEach es X.env := by rfl) : DA X W A (a :: es) (aCons f fs) :=
  (pa_cons ha hr hs).imp fun σ H Q ⟨e, G, E, p⟩ => ⟨e, G, E, p.split.imp fun d H1 G1 x1 p1 v rv => ⟨e, G1, E.ext x1, p1.split.imp fun ds H2 G2 x2 p2 vs rs => p2.here x2.gh (v :: vs) (.cons (rv.mono x2.gg) rs)⟩⟩
def eTup (fs : Env → Res (List D)) : Env → Res D := fun e => (fs e).bind fun ds => .ok (.tup ds)
def eLst (fs : Env → Res (List D)) : Env → Res D := fun e => (fs e).bind fun ds => .ok (.lst ds)
/-- how long such a list is -/
def LenIs (fs : Env → Res (List D)) (n : Nat) : Prop := ∀ e ds, fs e = .ok ds → ds.length ≤ n
theorem len_nil : LenIs aNil 0 := fun e ds h => by cases h; exact Nat.le_refl _
theorem len_cons {f : Env → Res D} {fs : Env → Res (List D)} {n : Nat} (h : LenIs fs n) : LenIs (aCons f fs) (n + 1) := fun e ds q => by
  unfold aCons at q
  cases hf : f e with
  | ok d =>
    rw [hf] at q
    cases hs : fs e with
    | ok es => rw [hs] at q; cases q; exact Nat.succ_le_succ (h e es hs)
    | exc c x => rw [hs] at q; cases q
    | bad => rw [hs] at q; cases q
  | exc c x => rw [hf] at q; cases q
  | bad => rw [hf] at q; cases q
theorem PostG.ifok {K : PySem.W.Frag} {mg : Str → Option Value} {W : Value → Option Addr → Hp → Prop} {H G : Hp} {α : Type} {r : Res α} {R R' : α → Hp → Hp → Prop} (h : PostG K mg W H G r R) (f : ∀ a H' G', r = .ok a → Ext H G H' G' → R a H' G' → R' a H' G') : PostG K mg W H G r R' := by
  cases r with
  | ok a => exact fun H2 G2 y => f a H2 G2 rfl y (h H2 G2 y)
  | exc c fs => exact h
  | bad => exact h
theorem de_tup {es : List Expr} {x1} {fs : Env → Res (List D)} {n : Nat} (h : DA X W A es fs) (hl : LenIs fs n) (hn : n ≤ sizeLine) : DE X W A (.Tuple es x1 pos) (eTup fs) :=
  (pe_tup h).imp fun σ H Q ⟨e, G, E, p⟩ => ⟨e, G, E, p.split.ifok fun ds H1 G1 hk x1 p1 vs rs => ⟨by rw [rs.length]; exact Nat.le_trans (hl e ds hk) hn, fun q hq =>
    p1 _ _ (Ext.laid x1.gh hq) _ ⟨q, vs, rfl, upd_same, rs.mono (Sub.upd (x1.gh.free hq))⟩⟩⟩
theorem df_lst {es : List Expr} {fs : Env → Res (List D)} {n : Nat} (h : DA X W A es fs) (hl : LenIs fs n) (hn : n ≤ sizeLine) : DF X W A (.List es pos) (eLst fs) :=
  (pe_lst h).imp fun σ H Q ⟨e, G, E, p⟩ => ⟨e, G, E, p.split.ifok fun ds H1 G1 hk x1 p1 vs rs => ⟨by rw [rs.length]; exact Nat.le_trans (hl e ds hk) hn, fun q hq =>
    p1 (upd H1 q (.lst vs)) G1 ⟨Sub.upd hq, Sub.refl _, x1.gh.trans (Sub.upd hq), fun b z => .inl z⟩ q (x1.hh.free hq) (x1.gh.free hq) ⟨vs, upd_same, rs⟩⟩⟩

/-! ### subscripts -/
def dIx : D → D → Res D
  | .con xs, .int i => match atI xs i with
    | some d => .ok d
    | none => .bad
  | .tup xs, .int i => match atI xs i with
    | some d => .ok d
    | none => .bad
  | .lst xs, .int i => match atI xs i with
    | some d => .ok d
    | none => .bad
  | .str x, .int i => if x.length ≤ sizeLine then (match atI x.cps.toList i with
    | some c => .ok (.str ⟨#[c]⟩)
    | none => .bad) else .bad
  | _, _ => .bad
theorem atI_rep {K : PySem.W.Frag} {G : Hp} {ds : List D} {vs : List V} {i : Int} {d : D} (r : RepL K G ds vs) (h : atI ds i = some d) : ∃ v, atI vs i = some v ∧ Rep K G d v := by
  unfold atI at h ⊢
  rw [r.length]
  cases e : ixN ds.length i with
  | none => rw [e] at h; cases h
  | some j =>
    rw [e] at h
    have h' : ds[j]? = some d := h
    obtain ⟨v, h1, h2⟩ := r.get h'
    exact ⟨v, h1, h2⟩
theorem de_ix {fa fb : Env → Res D} (ha : DR X W A a fa) (hb : DR X W A b fb) (hs : PlainIx b) : DE X W A (.Subscript a b pos) (eOp dIx fa fb) := by
  refine (pe_ix (IxR.or ix_list (IxR.or ix_tup ix_str)) ha hb hs).imp (op_two rfl rfl fun σ H G x y dx dy Q sg rx ry p => ?_)
  cases dx with
  | tup ds =>
    cases dy with
    | int i =>
      obtain ⟨q, vs, e, s, r⟩ := (show Rep X.K G (.tup ds) x from rx)
      dsimp only [dIx] at p
      cases ha : atI ds i with
      | none => rw [ha] at p; exact p.elim
      | some d =>
        rw [ha] at p
        obtain ⟨v, h1, h2⟩ := atI_rep r ha
        exact .inr (.inl ⟨q, vs, i, v, e, ry, sg.pt s, h1, p.val sg h2⟩)
    | _ => exact (show False from p).elim
  | con ds =>
    cases dy with
    | int i =>
      obtain ⟨q, vs, e, s, r⟩ := (show Rep X.K G (.con ds) x from rx)
      dsimp only [dIx] at p
      cases ha : atI ds i with
      | none => rw [ha] at p; exact p.elim
      | some d =>
        rw [ha] at p
        obtain ⟨v, h1, h2⟩ := atI_rep r ha
        exact .inr (.inl ⟨q, vs, i, v, e, ry, sg.sqt s, h1, p.val sg h2⟩)
    | _ => exact (show False from p).elim
  | lst ds =>
    cases dy with
    | int i =>
      obtain ⟨q, vs, e, s, r⟩ := rx
      dsimp only [dIx] at p
      cases ha : atI ds i with
      | none => rw [ha] at p; exact p.elim
      | some d =>
        rw [ha] at p
        obtain ⟨v, h1, h2⟩ := atI_rep r ha
        exact .inl ⟨q, vs, i, v, e, ry, s, h1, p.val sg h2⟩
    | _ => exact (show False from p).elim
  | str z =>
    cases dy with
    | int i =>
      dsimp only [dIx] at p
      by_cases hz : z.length ≤ sizeLine
      · rw [if_pos hz] at p
        cases ha : atI z.cps.toList i with
        | none => rw [ha] at p; exact p.elim
        | some c =>
          rw [ha] at p
          exact .inr (.inr ⟨z, i, c, rx, ry, hz, ha, p.val sg rfl⟩)
      · rw [if_neg hz] at p; exact p.elim
    | _ => exact (show False from p).elim
  | _ => exact (show False from p).elim
end
end DL

namespace DL
open PySem PySem.Spec PyProof.Rows L2
open PySem.Builtin.Int (intBits)

/-! ### slices -/
def tO (K : PySem.W.Frag) (mg : Str → Option Value) (W : WX) (A : Nat → Prop) (f : Env → Res (Option Int)) : TO := fun σ H Q => ∃ e G, EnvG K A σ e H G ∧ PostG K mg (fun c o H' => W c o σ H') H G (f e) fun b H' G' => Q b H'
abbrev DO (X : Cx) (W : WX) (A : Nat → Prop) (ex : Option Expr) (f : Env → Res (Option Int)) : Prop := PO X ex (tO X.K X.mg W A f)
theorem _root_.L2.PO.imp {X : Cx} {e : Option Expr} {t t' : TO} (h : PO X e t) (f : ∀ σ H Q, t' σ H Q → t σ H Q) : PO X e t' := ⟨fun pins s σ H Q I q => h.run pins s σ H Q I (f σ H Q q)⟩
def oNone : Env → Res (Option Int) := fun _ => .ok none
def oSome (f : Env → Res D) : Env → Res (Option Int) := fun e => (f e).bind fun d => match d with
  | .int i => .ok (some i)
  | _ => .bad
def cutL {α : Type} (xs : List α) (lo hi : Option Int) : List α := (xs.drop (HT.sIx xs.length 0 lo)).take (HT.sIx xs.length xs.length hi - HT.sIx xs.length 0 lo)
def dCut (lo hi : Option Int) : D → Res D
  | .tup xs => .ok (.tup (cutL xs lo hi))
  | .lst xs => .ok (.lst (cutL xs lo hi))
  | .str x => if x.length ≤ sizeLine then .ok (.str (cutS x lo hi)) else .bad
  | _ => .bad
def eCut (f : Env → Res D) (fl fh : Env → Res (Option Int)) : Env → Res D := fun e => (f e).bind fun d => (fl e).bind fun lo => (fh e).bind fun hi => dCut lo hi d
theorem cutL_all {α : Type} {xs : List α} {lo hi : Option Int} (h : HT.sIx xs.length 0 lo = 0 ∧ HT.sIx xs.length xs.length hi = xs.length) : cutL xs lo hi = xs := by
  unfold cutL
  rw [h.1, h.2]
  simp
theorem RepL.cut {K : PySem.W.Frag} {G : Hp} {ds : List D} {vs : List V} (lo hi : Option Int) (h : RepL K G ds vs) : RepL K G (cutL ds lo hi) (cutV vs lo hi) := by
  unfold cutL cutV
  rw [h.length]
  exact (h.drop _).take _
section
variable {X : Cx} {W : WX} {A : Nat → Prop} {a b : Expr} {lo hi : Option Expr} {rest : List Expr} {pos p2 : Pos}
theorem do_none : DO X W A none oNone := po_none.imp fun σ H Q ⟨e, G, E, p⟩ => p.here E.sub
theorem do_some {f : Env → Res D} (h : DE X W A a f) : DO X W A (some a) (oSome f) :=
  (po_some h).imp fun σ H Q ⟨e, G, E, p⟩ => ⟨e, G, E, p.split.imp fun d H1 G1 x1 p1 v rv => by
    cases d with
    | int i => exact ⟨i, rv, p1.here x1.gh⟩
    | _ => exact (show False from p1).elim⟩
theorem de_cut {f : Env → Res D} {fl fh : Env → Res (Option Int)} (ha : DR X W A a f) (hl : DO X W A lo fl) (hh : DO X W A hi fh) : DE X W A (.Subscript a (.Slice lo hi none p2) pos) (eCut f fl fh) := by
  refine (pe_slice (SlR.or sl_tupA (SlR.or sl_list sl_str)) ha hl hh).imp fun σ H Q ⟨e, G, E, p⟩ => ?_
  refine ⟨e, G, E, p.split.imp fun d H1 G1 x1 p1 v rv => ⟨e, G1, E.ext x1, p1.split.imp fun l H2 G2 x2 p2 => ⟨e, G2, (E.ext x1).ext x2, p2.split.imp fun u H3 G3 x3 p3 => ?_⟩⟩⟩
  have rv := (rv.mono x2.hh x2.gg).mono x3.hh x3.gg
  have sg := x3.gh
  cases d with
  | tup ds =>
    obtain ⟨q, vs, eq, s, r⟩ := (show Rep X.K G3 (.tup ds) v from rv)
    refine .inl ⟨q, vs, eq, sg.pt s, fun hw => ?_, fun hw q2 hq => ?_⟩
    · refine PostG.val (d := .tup (cutL ds l u)) p3 sg ⟨q, vs, rfl, s, ?_⟩
      rw [r.length] at hw
      rw [cutL_all hw]
      exact r
    · exact (show PostG X.K X.mg _ H3 G3 (Res.ok (D.tup (cutL ds l u))) _ from p3) _ _ (Ext.laid sg hq) _ ⟨q2, _, rfl, upd_same, (r.cut l u).mono (Sub.upd (sg.free hq))⟩
  | lst ds =>
    obtain ⟨q, vs, eq, s, r⟩ := rv
    refine .inr (.inl ⟨q, vs, eq, s, fun q2 hq => ?_⟩)
    exact (show PostG X.K X.mg _ H3 G3 (Res.ok (D.lst (cutL ds l u))) _ from p3) _ _ (Ext.laid sg hq) _ ⟨q2, _, rfl, SqL.of upd_same, (r.cut l u).mono (Sub.upd (sg.free hq))⟩
  | str z =>
    dsimp only [dCut] at p3
    by_cases hz : z.length ≤ sizeLine
    · rw [if_pos hz] at p3
      exact .inr (.inr ⟨z, rv, hz, p3.val sg rfl⟩)
    · rw [if_neg hz] at p3; exact p3.elim
  | _ => exact (show False from p3).elim
end

/-! ### calls of built-ins -/
def e1 (g : D → Res D) (f : Env → Res D) : Env → Res D := fun e => (f e).bind g
/-- a call of one value: what it does on data -/
def Call1 (X : Cx) (W : WX) (f : Value) (g : D → Res D) : Prop :=
  ∃ r, CallR X f r ∧ ∀ (σ : L2.St) (H G : Hp) (x : V) (dx : D) (Q : VK), Sub G H → RepC X.K H G dx x →
    PostG X.K X.mg (fun c o H' => W c o σ H') H G (g dx) (fun d H' G' => ∀ v, Rep X.K G' d v → Q v H') → r [x] H Q
def Call2 (X : Cx) (W : WX) (f : Value) (g : D → D → Res D) : Prop :=
  ∃ r, CallR X f r ∧ ∀ (σ : L2.St) (H G : Hp) (x y : V) (dx dy : D) (Q : VK), Sub G H → RepC X.K H G dx x → RepC X.K H G dy y →
    PostG X.K X.mg (fun c o H' => W c o σ H') H G (g dx dy) (fun d H' G' => ∀ v, Rep X.K G' d v → Q v H') → r [x, y] H Q
section
variable {X : Cx} {W : WX} {A : Nat → Prop} {a b : Expr} {rest : List Expr} {x : Str} {p pos : Pos} {id T : String}
theorem de_b1 {g : D → Res D} {f : Env → Res D} (hc : Call1 X W (.builtin id) g) (hg : Gl X x) (hm : X.mg x = none) (hv : bootBuiltins x = some (.builtin id)) (ha : DR X W A a f) (hn : x ≠ "__name__" := by decide) (hdb : (x == ("__debug__" : Str)) = false := by decide)
    (he : starEach (a :: []) X.env = (false, eval a X.env) :: starEach [] X.env := by rfl) (hpl : (backTo pos (starEach [] X.env)).any (·.1) = false := by rfl) : DE X W A (.Call (.Name x p) [a] [] pos) (e1 g f) := by
  obtain ⟨r, h1, h2⟩ := hc
  exact (pe_callB h1 hg hm hv (pa_cons ha pa_nil he) hn hdb he hpl).imp fun σ H Q ⟨e, G, E, p⟩ => ⟨e, G, E, p.split.imp fun d H1 G1 x1 p1 v rv => h2 σ H1 G1 v d Q x1.gh rv p1⟩
theorem de_t1 {g : D → Res D} {f : Env → Res D} (hc : Call1 X W (.type T) g) (hg : Gl X x) (hm : X.mg x = none) (hv : bootBuiltins x = some (.type T)) (ha : DR X W A a f) (hn : x ≠ "__name__" := by decide) (hdb : (x == ("__debug__" : Str)) = false := by decide)
    (he : starEach (a :: []) X.env = (false, eval a X.env) :: starEach [] X.env := by rfl) (hpl : (backTo pos (starEach [] X.env)).any (·.1) = false := by rfl) : DE X W A (.Call (.Name x p) [a] [] pos) (e1 g f) := by
  obtain ⟨r, h1, h2⟩ := hc
  exact (pe_callTy h1 hg hm hv (pa_cons ha pa_nil he) hn hdb he hpl).imp fun σ H Q ⟨e, G, E, p⟩ => ⟨e, G, E, p.split.imp fun d H1 G1 x1 p1 v rv => h2 σ H1 G1 v d Q x1.gh rv p1⟩
theorem de_b2 {g : D → D → Res D} {fa fb : Env → Res D} (hc : Call2 X W (.builtin id) g) (hg : Gl X x) (hm : X.mg x = none) (hv : bootBuiltins x = some (.builtin id)) (ha : DR X W A a fa) (hb : DR X W A b fb) (hn : x ≠ "__name__" := by decide) (hdb : (x == ("__debug__" : Str)) = false := by decide)
    (he : starEach (a :: [b]) X.env = (false, eval a X.env) :: starEach [b] X.env := by rfl) (he2 : starEach (b :: []) X.env = (false, eval b X.env) :: starEach [] X.env := by rfl) (hpl : (backTo pos (starEach [b] X.env)).any (·.1) = false := by rfl) : DE X W A (.Call (.Name x p) [a, b] [] pos) (eOp g fa fb) := by
  obtain ⟨r, h1, h2⟩ := hc
  refine (pe_callB h1 hg hm hv (pa_cons ha (pa_cons hb pa_nil he2) he) hn hdb he hpl).imp fun σ H Q ⟨e, G, E, p⟩ => ?_
  refine ⟨e, G, E, p.split.imp fun d H1 G1 x1 p1 v rv => ⟨e, G1, E.ext x1, p1.split.imp fun d2 H2 G2 x2 p2 u ru => h2 σ H2 G2 v u d d2 Q x2.gh (rv.mono x2.hh x2.gg) ru p2⟩⟩

/-! len, abs, max, min, int, list, tuple, sum .. -/
def rLenD : List V → Hp → VK → Prop := fun xs H Q => ∃ a n, xs = [V.ref a] ∧ ((∃ kvs, Rd H a (.dK kvs) ∧ n = kvs.length) ∨ ∃ kvs, Rd H a (.dT kvs) ∧ n = kvs.length) ∧ Q (.int ((n : Nat) : Int)) H
theorem cr_lenD : CallR X (.builtin "len") rLenD := by
  intro pins s σ H xs us Q I r h
  obtain ⟨a, n, rfl, hd, q⟩ := h
  obtain ⟨u, rfl, rx⟩ := vals1 r
  obtain rfl : u = .ref a := rx
  rcases hd with ⟨kvs, hk, rfl⟩ | ⟨kvs, hk, rfl⟩
  · exact d_len I hk fun t s' I' => ⟨.int _, H, I', ⟨_, rfl⟩, q⟩
  · obtain ⟨z, hd, ys, rel, dd⟩ := dt_rd I.hok hk
    have hl : kvs.length = ys.length := Paired.length rel
    refine call_len_dictH hd dd (by rw [← hl]; rw [PySem.sizeLine_eq] at z; omega) ?_
    rw [← hl]
    exact ⟨.int ((kvs.length : Nat) : Int), H, I.tok _, ⟨_, rfl⟩, q⟩
def dLen : D → Res D
  | .lst xs => .ok (.int xs.length)
  | .tup xs => .ok (.int xs.length)
  | .con xs => .ok (.int xs.length)
  | .str x => if x.length ≤ sizeLine then .ok (.int x.length) else .bad
  | .dct _ kvs => .ok (.int kvs.length)
  | _ => .bad
theorem c1_len : Call1 X W (.builtin "len") dLen := by
  refine ⟨_, CallR.or call_len cr_lenD, fun σ H G x dx Q sg rx p => ?_⟩
  cases dx with
  | lst ds =>
    obtain ⟨q, vs, e, s, r⟩ := rx
    subst e
    refine .inl ⟨_, vs.length, rfl, .inl ⟨vs, s, rfl⟩, ?_⟩
    rw [r.length]
    exact PostG.val (d := .int ds.length) p sg rfl
  | tup ds =>
    obtain ⟨q, vs, e, s, r⟩ := (show Rep X.K G (.tup ds) x from rx)
    subst e
    refine .inl ⟨_, vs.length, rfl, .inr ⟨vs, sg.pt s, rfl⟩, ?_⟩
    rw [r.length]
    exact PostG.val (d := .int ds.length) p sg rfl
  | con ds =>
    obtain ⟨q, vs, e, s, r⟩ := (show Rep X.K G (.con ds) x from rx)
    subst e
    refine .inl ⟨_, vs.length, rfl, .inr ⟨vs, sg.sqt s, rfl⟩, ?_⟩
    rw [r.length]
    exact PostG.val (d := .int ds.length) p sg rfl
  | dct t kvs =>
    obtain ⟨a, e, h⟩ := rx
    subst e
    have p' : Q (.int ((kvs.length : Nat) : Int)) H := PostG.val (d := .int kvs.length) p sg rfl
    rcases h with ⟨_, ps, h1, h2, _⟩ | ⟨_, ps, h1, h2, _⟩
    · have hl := congrArg List.length h2
      rw [List.length_map, List.length_map] at hl
      exact .inr ⟨a, ps.length, rfl, .inl ⟨ps, h1, rfl⟩, by rw [← hl]; exact p'⟩
    · have hl := congrArg List.length h2
      rw [List.length_map, List.length_map] at hl
      exact .inr ⟨a, ps.length, rfl, .inr ⟨ps, h1, rfl⟩, by rw [← hl]; exact p'⟩
  | str z =>
    have : x = .str z := rx
    subst this
    dsimp only [dLen] at p
    by_cases hz : z.length ≤ sizeLine
    · rw [if_pos hz] at p
      exact .inl ⟨_, z.length, rfl, ⟨hz, rfl⟩, p.val sg rfl⟩
    · rw [if_neg hz] at p; exact p.elim
  | _ => exact (show False from p).elim
def dAbs : D → Res D
  | .int i => .ok (.int (if i < 0 then -i else i))
  | _ => .bad
def dMax : D → D → Res D
  | .int i, .int j => .ok (.int (if j > i then j else i))
  | _, _ => .bad
def dMin : D → D → Res D
  | .int i, .int j => .ok (.int (if j < i then j else i))
  | _, _ => .bad
theorem c2_max (hc : X.calm = true) : Call2 X W (.builtin "max") dMax := by
  refine ⟨_, call_max2 hc, fun σ H G x y dx dy Q sg rx ry p => ?_⟩
  cases dx with
  | int i =>
    cases dy with
    | int j =>
      have h1 : x = .int i := rx
      have h2 : y = .int j := ry
      subst h1 h2
      exact ⟨i, j, rfl, PostG.val (d := .int (if j > i then j else i)) p sg rfl⟩
    | _ => exact (show False from p).elim
  | _ => exact (show False from p).elim
def dTuple : D → Res D
  | .lst xs => .ok (.tup xs)
  | .tup xs => .ok (.tup xs)
  | .con xs => .ok (.con xs)
  | _ => .bad
theorem c1_tuple : Call1 X W (.type "tuple") dTuple := by
  refine ⟨_, call_tuple_of, fun σ H G x dx Q sg rx p => ?_⟩
  cases dx with
  | lst ds =>
    obtain ⟨q, vs, e, s, r⟩ := rx
    subst e
    refine ⟨q, vs, rfl, .inl ⟨s, fun l hl => ?_⟩⟩
    exact (show PostG X.K X.mg _ H G (Res.ok (D.tup ds)) _ from p) _ _ (Ext.laid sg hl) _ ⟨l, vs, rfl, upd_same, r.mono (Sub.upd (sg.free hl))⟩
  | tup ds =>
    have rx : Rep X.K G (.tup ds) x := rx
    obtain ⟨q, vs, e, s, r⟩ := id rx
    subst e
    exact ⟨q, vs, rfl, .inr ⟨sg.pt s, PostG.val (d := .tup ds) p sg rx⟩⟩
  | con ds =>
    have rx : Rep X.K G (.con ds) x := rx
    obtain ⟨q, vs, e, s, r⟩ := id rx
    subst e
    exact ⟨q, vs, rfl, .inr ⟨sg.sqt s, PostG.val (d := .con ds) p sg rx⟩⟩
  | _ => exact (show False from p).elim
def dList : D → Res D
  | .lst xs => .ok (.lst xs)
  | .tup xs => .ok (.lst xs)
  | .con xs => .ok (.lst xs)
  | _ => .bad
/-- the ints of a list of ints -/
def D.ints : List D → Option (List Int)
  | [] => some []
  | .int i :: r => (D.ints r).map fun ns => i :: ns
  | _ :: _ => none
@[simp] theorem ints_map : ∀ ns : List Int, D.ints (ns.map D.int) = some ns
  | [] => rfl
  | n :: r => by show (D.ints (r.map D.int)).map _ = _; rw [ints_map r]; rfl
def D.bls : List D → Option (List Bool)
  | [] => some []
  | .bl i :: r => (D.bls r).map fun ns => i :: ns
  | _ :: _ => none
theorem bls_eq : ∀ {ds : List D} {ns : List Bool}, D.bls ds = some ns → ds = ns.map D.bl
  | [], ns, h => by cases h; rfl
  | d :: r, ns, h => by
    cases d with
    | bl i =>
      dsimp only [D.bls] at h
      cases e : D.bls r with
      | none => rw [e] at h; cases h
      | some ms => rw [e] at h; cases h; rw [bls_eq e]; rfl
    | _ => cases h
@[simp] theorem bls_map : ∀ ns : List Bool, D.bls (ns.map D.bl) = some ns
  | [] => rfl
  | n :: r => by show (D.bls (r.map D.bl)).map _ = _; rw [bls_map r]; rfl
def dSum : D → Res D
  | .lst xs => match D.ints xs with
    | some ns => .ok (.int ns.sum)
    | none => .bad
  | _ => .bad
def dAll : D → Res D
  | .lst xs => match D.bls xs with
    | some ns => .ok (.bl (ns.all _root_.id))
    | none => .bad
  | _ => .bad
theorem c1_all (hc : X.calm = true) : Call1 X W (.builtin "all") dAll := by
  refine ⟨_, cr_all hc, fun σ H G x dx Q sg rx p => ?_⟩
  cases dx with
  | lst ds =>
    obtain ⟨q, vs, e, s, r⟩ := rx
    subst e
    dsimp only [dAll] at p
    cases hi : D.bls ds with
    | none => rw [hi] at p; exact p.elim
    | some ns =>
      rw [hi] at p
      rw [bls_eq hi] at r
      rw [r.bls] at s
      exact ⟨q, ns, rfl, s, p.val sg rfl⟩
  | _ => exact (show False from p).elim
end
end DL

namespace DL
open PySem PySem.Spec PyProof.Rows L2
open PySem.Builtin.Int (intBits)

/-! ### statements -/
inductive Out where
  | nx (e : Env)
  | rt (d : D)
  | ro (d : D)
  | rm (d : D) (e : Env)
  | bk (e : Env)
  | ct (e : Env)
  | ex (c : String) (fs : List D) (e : Env)
  | bad

def unown (i : Nat) (e : Env) : Env := match e[i]? with
  | some (some (d, true)) => e.set i (some (d, false))
  | _ => e
/-- these names' lists and dicts are not changed any more -/
def fz : List Nat → Env → Env
  | [], e => e
  | i :: r, e => fz r (unown i e)
@[simp] theorem fz_nil (e : Env) : fz [] e = e := rfl
theorem unown_get (i : Nat) (e : Env) (j : Nat) : (unown i e)[j]? = if j = i then (match e[j]? with | some (some (d, _)) => some (some (d, false)) | z => z) else e[j]? := by
  unfold unown
  by_cases h : j = i
  · subst h
    rw [if_pos rfl]
    cases q : e[j]? with
    | none => simp only [q]
    | some s =>
      have hl : j < e.length := (List.getElem?_eq_some_iff.mp q).1
      cases s with
      | none => simp only [q]
      | some z =>
        obtain ⟨d, o⟩ := z
        cases o with
        | true => simp only []; rw [List.getElem?_set_self hl]
        | false => simp only [q]
  · rw [if_neg h]
    split
    · rw [List.getElem?_set_ne (Ne.symm h)]
    · rfl
theorem unown_length (i : Nat) (e : Env) : (unown i e).length = e.length := by
  unfold unown
  split
  · rw [List.length_set]
  · rfl
theorem fz_length : ∀ (al : List Nat) (e : Env), (fz al e).length = e.length
  | [], e => rfl
  | i :: r, e => by rw [fz, fz_length r, unown_length]
theorem fz_get : ∀ (al : List Nat) (e : Env) (j : Nat) (d : D) (o : Bool), (fz al e)[j]? = some (some (d, o)) → ∃ o', e[j]? = some (some (d, o')) ∧ ((o = o' ∧ (o' = true → j ∉ al)) ∨ (o = false ∧ o' = true ∧ j ∈ al))
  | [], e, j, d, o, h => ⟨o, h, .inl ⟨rfl, fun _ => by simp⟩⟩
  | i :: r, e, j, d, o, h => by
    obtain ⟨o1, h1, h2⟩ := fz_get r (unown i e) j d o h
    rw [unown_get] at h1
    by_cases hj : j = i
    · rw [if_pos hj] at h1
      cases q : e[j]? with
      | none => rw [q] at h1; cases h1
      | some s => cases s with
        | none => rw [q] at h1; cases h1
        | some z =>
          obtain ⟨d', o'⟩ := z
          rw [q] at h1
          cases h1
          rcases h2 with ⟨rfl, _⟩ | ⟨_, z, _⟩
          · cases o' with
            | true => exact ⟨true, rfl, .inr ⟨rfl, rfl, by simp [hj]⟩⟩
            | false => exact ⟨false, rfl, .inl ⟨rfl, fun z => by cases z⟩⟩
          · cases z
    · rw [if_neg hj] at h1
      refine ⟨o1, h1, ?_⟩
      rcases h2 with ⟨a, b⟩ | ⟨a, b, c⟩
      · exact .inl ⟨a, fun z => by simp [hj, b z]⟩
      · exact .inr ⟨a, b, by simp [c]⟩

/-- a def's entry: the caller's part of the heap, and where the lists and dicts stand that are lent to it to be changed -/
structure Bas where
  hp : Hp
  pin : Nat → Option Addr
/-- nothing is lent -/
abbrev Bas.of (H : Hp) : Bas := ⟨H, fun _ => none⟩
/-- the state between two statements: H0, G0 at the def's entry -/
structure StOk (K : PySem.W.Frag) (H0 : Bas) (G0 : Hp) (σ : L2.St) (e : Env) (H G : Hp) : Prop where
  ext : Ext H0.hp G0 H G
  len : σ.length = e.length
  sh : ∀ (i : Nat) d, e[i]? = some (some (d, false)) → ∃ v, σ[i]? = some (some v) ∧ Rep K G d v
  ow : ∀ (i : Nat) d, e[i]? = some (some (d, true)) → ∃ a, σ[i]? = some (some (.ref a)) ∧ H0.hp a = none ∧ G a = none ∧ OwnC K H G d a
  ne : ∀ (i j : Nat) d d' a, e[i]? = some (some (d, true)) → e[j]? = some (some (d', true)) → σ[i]? = some (some (.ref a)) → σ[j]? = some (some (.ref a)) → i = j
  pn : ∀ (i : Nat) a d, H0.pin i = some a → e[i]? = some (some (d, true)) → σ[i]? = some (some (.ref a))
/-- what a reckoning of the names at al may keep -/
def OwnAt (σ : L2.St) (e : Env) (al : List Nat) (b : Addr) : Prop := ∃ (i : Nat) (d : D), i ∈ al ∧ e[i]? = some (some (d, true)) ∧ σ[i]? = some (some (.ref b))
open Classical in
noncomputable def gA (σ : L2.St) (e : Env) (al : List Nat) (H G : Hp) : Hp := fun b => if OwnAt σ e al b then H b else G b
/-- no dict at al is owned -/
def NoDct (al : List Nat) (e : Env) : Prop := ∀ (i : Nat) d, i ∈ al → e[i]? = some (some (d, true)) → d.isDct = false
theorem StOk.exp0 {K : PySem.W.Frag} {H0 : Bas} {G0 H G : Hp} {σ : L2.St} {e : Env} (S : StOk K H0 G0 σ e H G) (al : List Nat) (nd : NoDct al e) :
    ∃ GA, EnvG K (fun i => i ∈ al) σ e H GA ∧ ∀ H' G', Ext H GA H' G' → StOk K H0 G0 σ (fz al e) H' G' := by
  have yes : ∀ {b : Addr}, OwnAt σ e al b → gA σ e al H G b = H b := fun h => if_pos h
  have no : ∀ {b : Addr}, ¬ OwnAt σ e al b → gA σ e al H G b = G b := fun h => if_neg h
  have gown : ∀ {b : Addr}, OwnAt σ e al b → G b = none := fun {b} ⟨i, d, _, h1, h2⟩ => by
    obtain ⟨a, q1, _, q2, _⟩ := S.ow i d h1
    rw [h2] at q1; cases q1; exact q2
  have s1 : Sub G (gA σ e al H G) := fun b o q => by
    by_cases h : OwnAt σ e al b
    · rw [gown h] at q; cases q
    · rw [no h]; exact q
  have s2 : Sub (gA σ e al H G) H := fun b o q => by
    by_cases h : OwnAt σ e al b
    · rw [yes h] at q; exact q
    · rw [no h] at q; exact S.ext.gh _ _ q
  have keep : ∀ (i : Nat) (d : D), i ∈ al → e[i]? = some (some (d, true)) → ∃ v, σ[i]? = some (some v) ∧ Rep K (gA σ e al H G) d v := fun i d hi h => by
    obtain ⟨a, q1, _, _, q5⟩ := S.ow i d h
    exact ⟨_, q1, q5.put (nd i d hi h) s1 (yes ⟨i, d, hi, h, q1⟩)⟩
  refine ⟨gA σ e al H G, ⟨s2, S.len, fun i d o h => ?_⟩, fun H' G' x => ?_⟩
  · cases o with
    | false =>
      obtain ⟨v, q1, q2⟩ := S.sh i d h
      exact ⟨v, q1, fun _ => q2.mono s1, (q2.c S.ext.gh).mono (Sub.refl _) s1⟩
    | true =>
      obtain ⟨a, q1, q2, q3, q5⟩ := S.ow i d h
      refine ⟨_, q1, fun z => ?_, q5.c.mono (Sub.refl _) s1⟩
      rcases z with z | z
      · exact q5.put (nd i d z h) s1 (yes ⟨i, d, z, h, q1⟩)
      · cases z
  · refine ⟨⟨S.ext.hh.trans x.hh, S.ext.gg.trans (s1.trans x.gg), x.gh, fun b z => ?_⟩, by rw [fz_length]; exact S.len, fun i d h => ?_, fun i d h => ?_, fun i j d d' a h1 h2 h3 h4 => ?_, fun i a d hp h => ?_⟩
    · rcases x.new b z with z | z
      · by_cases h : OwnAt σ e al b
        · obtain ⟨i, d, _, h1, h2⟩ := h
          obtain ⟨a, q1, q2, _⟩ := S.ow i d h1
          rw [h2] at q1; cases q1; exact .inr (.inl q2)
        · rw [no h] at z; exact S.ext.new b z
      · exact .inr (z.back S.ext.hh)
    · obtain ⟨o', h1, h2⟩ := fz_get al e i d false h
      rcases h2 with ⟨rfl, _⟩ | ⟨_, rfl, hi⟩
      · obtain ⟨v, q1, q2⟩ := S.sh i d h1
        exact ⟨v, q1, q2.mono (s1.trans x.gg)⟩
      · obtain ⟨v, q1, q2⟩ := keep i d hi h1
        exact ⟨v, q1, q2.mono x.gg⟩
    · obtain ⟨o', h1, h2⟩ := fz_get al e i d true h
      rcases h2 with ⟨rfl, hi⟩ | ⟨z, _⟩
      · obtain ⟨a, q1, q2, q3, q5⟩ := S.ow i d h1
        refine ⟨a, q1, q2, ?_, q5.mono x.hh (s1.trans x.gg)⟩
        cases hg : G' a with
        | none => rfl
        | some u =>
          rcases x.new a (by rw [hg]; simp) with z | z
          · have nown : ¬ OwnAt σ e al a := fun ⟨j, d', hj, w1, w2⟩ => hi rfl (by rw [S.ne i j d d' a h1 w1 q1 w2]; exact hj)
            rw [no nown] at z
            exact absurd q3 z
          · exact absurd z q5.nfr
      · cases z
    · obtain ⟨o1, w1, z1⟩ := fz_get al e i d true h1
      obtain ⟨o2, w2, z2⟩ := fz_get al e j d' true h2
      have e1 : o1 = true := by rcases z1 with ⟨z, _⟩ | ⟨z, _⟩; exact z.symm; cases z
      have e2 : o2 = true := by rcases z2 with ⟨z, _⟩ | ⟨z, _⟩; exact z.symm; cases z
      subst e1 e2
      exact S.ne i j d d' a w1 w2 h3 h4
    · obtain ⟨o1, w1, z1⟩ := fz_get al e i d true h
      have e1 : o1 = true := by rcases z1 with ⟨z, _⟩ | ⟨z, _⟩; exact z.symm; cases z
      subst e1
      exact S.pn i a d hp w1

theorem set_get {α : Type} {e : List α} {i j : Nat} {x y : α} (h : (e.set i x)[j]? = some y) : (j = i ∧ y = x) ∨ (j ≠ i ∧ e[j]? = some y) := by
  by_cases hj : j = i
  · subst hj
    by_cases hl : j < e.length
    · rw [List.getElem?_set_self hl] at h; cases h; exact .inl ⟨rfl, rfl⟩
    · rw [List.getElem?_eq_none (by simpa using hl)] at h; cases h
  · rw [List.getElem?_set_ne (Ne.symm hj)] at h; exact .inr ⟨hj, h⟩
/-! the dicts at al are locked -/
def unownD (i : Nat) (e : Env) : Env := match e[i]? with
  | some (some (.dct t kvs, true)) => e.set i (some (.dct t kvs, false))
  | _ => e
def fzD : List Nat → Env → Env
  | [], e => e
  | i :: r, e => fzD r (unownD i e)
theorem unownD_get (i : Nat) (e : Env) (j : Nat) (d : D) (o : Bool) (h : (unownD i e)[j]? = some (some (d, o))) : ∃ o', e[j]? = some (some (d, o')) ∧ ((o = o' ∧ (o' = true → j = i → d.isDct = false)) ∨ (o = false ∧ o' = true ∧ j = i)) := by
  unfold unownD at h
  split at h
  · rename_i t kvs he
    by_cases hj : j = i
    · subst hj
      have hl : j < e.length := (List.getElem?_eq_some_iff.mp he).1
      rw [List.getElem?_set_self hl] at h
      cases h
      exact ⟨true, he, .inr ⟨rfl, rfl, rfl⟩⟩
    · rw [List.getElem?_set_ne (Ne.symm hj)] at h
      exact ⟨o, h, .inl ⟨rfl, fun _ z => absurd z hj⟩⟩
  · rename_i hn
    refine ⟨o, h, .inl ⟨rfl, fun z w => ?_⟩⟩
    subst z w
    cases d with
    | dct t kvs => exact absurd h (hn t kvs)
    | _ => rfl
theorem fzD_length : ∀ (al : List Nat) (e : Env), (fzD al e).length = e.length
  | [], e => rfl
  | i :: r, e => by
    rw [fzD, fzD_length r]
    unfold unownD
    split
    · rw [List.length_set]
    · rfl
theorem fzD_get : ∀ (al : List Nat) (e : Env) (j : Nat) (d : D) (o : Bool), (fzD al e)[j]? = some (some (d, o)) → ∃ o', e[j]? = some (some (d, o')) ∧ ((o = o' ∧ (o' = true → j ∈ al → d.isDct = false)) ∨ (o = false ∧ o' = true ∧ j ∈ al))
  | [], e, j, d, o, h => ⟨o, h, .inl ⟨rfl, fun _ z => by cases z⟩⟩
  | i :: r, e, j, d, o, h => by
    obtain ⟨o1, h1, h2⟩ := fzD_get r (unownD i e) j d o h
    obtain ⟨o2, h3, h4⟩ := unownD_get i e j d o1 h1
    refine ⟨o2, h3, ?_⟩
    rcases h2 with ⟨rfl, a⟩ | ⟨rfl, rfl, a⟩
    · rcases h4 with ⟨rfl, b⟩ | ⟨rfl, rfl, rfl⟩
      · refine .inl ⟨rfl, fun z w => ?_⟩
        rcases List.mem_cons.mp w with w | w
        · exact b z w
        · exact a z w
      · exact .inr ⟨rfl, rfl, List.mem_cons_self⟩
    · rcases h4 with ⟨rfl, b⟩ | ⟨z, _, _⟩
      · exact .inr ⟨rfl, rfl, List.mem_cons_of_mem _ a⟩
      · cases z
theorem fzD_keep : ∀ (al : List Nat) (e : Env) (j : Nat) (d : D) (o : Bool), e[j]? = some (some (d, o)) → ∃ o', (fzD al e)[j]? = some (some (d, o')) ∧ (o = false → o' = false)
  | [], e, j, d, o, h => ⟨o, h, id⟩
  | i :: r, e, j, d, o, h => by
    have step : ∃ o', (unownD i e)[j]? = some (some (d, o')) ∧ (o = false → o' = false) := by
      unfold unownD
      split
      · rename_i t kvs he
        by_cases hj : j = i
        · subst hj
          have hl : j < e.length := (List.getElem?_eq_some_iff.mp he).1
          rw [he] at h; cases h
          exact ⟨false, List.getElem?_set_self hl, fun _ => rfl⟩
        · exact ⟨o, by rw [List.getElem?_set_ne (Ne.symm hj)]; exact h, id⟩
      · exact ⟨o, h, id⟩
    obtain ⟨o1, h1, h2⟩ := step
    obtain ⟨o2, h3, h4⟩ := fzD_keep r (unownD i e) j d o1 h1
    exact ⟨o2, h3, fun z => h4 (h2 z)⟩
theorem fzD_none : ∀ (al : List Nat) (e : Env) (j : Nat), (∀ d o, e[j]? ≠ some (some (d, o))) → (fzD al e)[j]? = e[j]?
  | [], e, j, h => rfl
  | i :: r, e, j, h => by
    have step : (unownD i e)[j]? = e[j]? := by
      unfold unownD
      split
      · rename_i t kvs he
        by_cases hj : j = i
        · subst hj; exact absurd he (h _ _)
        · rw [List.getElem?_set_ne (Ne.symm hj)]
      · rfl
    rw [fzD, fzD_none r (unownD i e) j (fun d o => by rw [step]; exact h d o), step]
/-- the flags alone are other -/
theorem env_ext {a b : Env} (h : ∀ j : Nat, a[j]? = b[j]?) : a = b := List.ext_getElem? h
theorem fz_is (al : List Nat) (e : Env) (j : Nat) (d : D) (o : Bool) (h : e[j]? = some (some (d, o))) : (fz al e)[j]? = some (some (d, if j ∈ al then false else o)) := by
  induction al generalizing e o with
  | nil => rw [if_neg (by simp)]; exact h
  | cons i r ih =>
    rw [fz]
    have hu : (unown i e)[j]? = some (some (d, if j = i then false else o)) := by
      rw [unown_get]
      by_cases hj : j = i
      · rw [if_pos hj, h, if_pos hj]
      · rw [if_neg hj, h, if_neg hj]
    rw [ih _ _ hu]
    by_cases h1 : j ∈ r
    · rw [if_pos h1, if_pos (List.mem_cons_of_mem _ h1)]
    · rw [if_neg h1]
      by_cases h2 : j = i
      · rw [if_pos h2, if_pos (by simp [h2])]
      · rw [if_neg h2, if_neg (by simp [h1, h2])]
theorem fz_none (al : List Nat) (e : Env) (j : Nat) (h : ∀ d o, e[j]? ≠ some (some (d, o))) : (fz al e)[j]? = e[j]? := by
  induction al generalizing e with
  | nil => rfl
  | cons i r ih =>
    have step : (unown i e)[j]? = e[j]? := by
      rw [unown_get]
      by_cases hj : j = i
      · rw [if_pos hj]
        split
        · rename_i d o he; exact absurd he (h d o)
        · rfl
      · rw [if_neg hj]
    rw [fz, ih _ (fun d o => by rw [step]; exact h d o), step]
theorem fz_fzD (al : List Nat) (e : Env) : fz al (fzD al e) = fz al e := env_ext fun j => by
  by_cases h : ∃ d o, e[j]? = some (some (d, o))
  · obtain ⟨d, o, h⟩ := h
    obtain ⟨o1, h1, h2⟩ := fzD_keep al e j d o h
    obtain ⟨o2, h3, h4⟩ := fzD_get al e j d o1 h1
    rw [h] at h3; cases h3
    rw [fz_is al _ j d o1 h1, fz_is al e j d o h]
    by_cases hj : j ∈ al
    · rw [if_pos hj, if_pos hj]
    · rw [if_neg hj, if_neg hj]
      rcases h4 with ⟨rfl, _⟩ | ⟨_, _, z⟩
      · rfl
      · exact absurd z hj
  · have n : ∀ d o, e[j]? ≠ some (some (d, o)) := fun d o z => h ⟨d, o, z⟩
    have n2 := fzD_none al e j n
    rw [fz_none al _ j (fun d o => by rw [n2]; exact n d o), fz_none al e j n, n2]
theorem fzD_nd (al : List Nat) (e : Env) : NoDct al (fzD al e) := fun i d hi h => by
  obtain ⟨o', h1, h2⟩ := fzD_get al e i d true h
  rcases h2 with ⟨rfl, z⟩ | ⟨z, _⟩
  · exact z rfl hi
  · cases z
theorem StOk.lock {K : PySem.W.Frag} {H0 : Bas} {G0 : Hp} {σ : L2.St} : ∀ (al : List Nat) {e : Env} {H G : Hp}, StOk K H0 G0 σ e H G → LockT (fun H1 => ∃ G1, StOk K H0 G0 σ (fzD al e) H1 G1) H
  | [], _, _, G, S => .here ⟨G, S⟩
  | i :: r, e, H, G, S => by
    have step : LockT (fun H1 => ∃ G1, StOk K H0 G0 σ (unownD i e) H1 G1) H := by
      unfold unownD
      split
      · rename_i t kvs he
        obtain ⟨a, q1, q2, q3, q5⟩ := S.ow i _ he
        obtain ⟨u, hu, mu, _⟩ := q5.lock rfl (Sub.refl G)
        refine .lock hu mu fun od => .here ⟨upd G a (.frz od u), ?_⟩
        have sg : Sub G (upd G a (.frz od u)) := Sub.upd q3
        have n0 : ∀ {b o}, H0.hp b = some o → b ≠ a := fun {b o} z w => by rw [w, q2] at z; cases z
        refine ⟨⟨fun b o z => by rw [upd_ne (n0 z)]; exact S.ext.hh _ _ z, S.ext.gg.trans sg, fun b o z => ?_, fun b z => ?_⟩, by rw [List.length_set]; exact S.len, fun j d' h => ?_, fun j d' h => ?_, fun j k d1 d2 b h1 h2 h3 h4 => ?_, fun j b d' hp h => ?_⟩
        · by_cases hb : b = a
          · subst hb; rw [upd_same] at z ⊢; exact z
          · rw [upd_ne hb] at z ⊢; exact S.ext.gh _ _ z
        · by_cases hb : b = a
          · subst hb; exact .inr (.inl q2)
          · rw [upd_ne hb] at z; exact S.ext.new b z
        · rcases set_get h with ⟨rfl, z⟩ | ⟨hj, z⟩
          · cases z
            obtain ⟨u', hu', _, k⟩ := q5.lock rfl sg
            rw [hu] at hu'; cases hu'
            exact ⟨_, q1, k od upd_same⟩
          · obtain ⟨v, w1, w2⟩ := S.sh j d' z
            exact ⟨v, w1, w2.mono sg⟩
        · rcases set_get h with ⟨_, z⟩ | ⟨hj, z⟩
          · cases z
          · obtain ⟨b, w1, w2, w3, w4⟩ := S.ow j d' z
            have nb : b ≠ a := fun q => hj (S.ne j i d' _ a z he (by rw [w1, q]) q1)
            exact ⟨b, w1, w2, by rw [upd_ne nb]; exact w3, w4.mono' (fun o' z => by rw [upd_ne nb]; exact z) sg⟩
        · rcases set_get h1 with ⟨_, z⟩ | ⟨hj, z1⟩
          · cases z
          · rcases set_get h2 with ⟨_, z⟩ | ⟨hk, z2⟩
            · cases z
            · exact S.ne j k d1 d2 b z1 z2 h3 h4
        · rcases set_get h with ⟨_, z⟩ | ⟨hj, z⟩
          · cases z
          · exact S.pn j b d' hp z
      · exact .here ⟨G, S⟩
    exact step.bind fun H1 ⟨G1, S1⟩ => StOk.lock r S1
theorem fz_fzD_own {al : List Nat} {e : Env} {j : Nat} {d : D} (h : (fz al e)[j]? = some (some (d, true))) : (fzD al e)[j]? = some (some (d, true)) := by
  rw [← fz_fzD] at h
  obtain ⟨o', w1, w2⟩ := fz_get al _ j d true h
  have e1 : o' = true := by rcases w2 with ⟨z, _⟩ | ⟨z, _⟩; exact z.symm; cases z
  rw [e1] at w1
  exact w1
/-- a reckoning's state: the dicts that are handed on are locked -/
theorem StOk.exp {K : PySem.W.Frag} {H0 : Bas} {G0 H G : Hp} {σ : L2.St} {e : Env} (S : StOk K H0 G0 σ e H G) (al : List Nat) :
    LockT (fun H1 => ∃ G1 GA, StOk K H0 G0 σ (fzD al e) H1 G1 ∧ EnvG K (fun i => i ∈ al) σ e H1 GA ∧ ∀ H' G', Ext H1 GA H' G' → StOk K H0 G0 σ (fz al e) H' G') H :=
  (S.lock al).imp fun H1 ⟨G1, S1⟩ => by
    obtain ⟨GA, E, nxt⟩ := S1.exp0 al (fzD_nd al e)
    refine ⟨G1, GA, S1, ⟨E.sub, by rw [E.len, fzD_length], fun i d o h => ?_⟩, fun H' G' x => by rw [← fz_fzD]; exact nxt H' G' x⟩
    obtain ⟨o1, h1, h2⟩ := fzD_keep al e i d o h
    obtain ⟨v, w1, w2, w3⟩ := E.val i d o1 h1
    exact ⟨v, w1, fun z => w2 (z.imp id h2), w3⟩

/-! a name is stored -/
section
variable {K : PySem.W.Frag} {H0 : Bas} {G0 H G : Hp} {σ : L2.St} {e : Env}
theorem StOk.lt (S : StOk K H0 G0 σ e H G) {i : Nat} {s : Sl} {x : Sl} (h : (e.set i x)[i]? = some s) : i < σ.length := by
  by_cases hl : i < e.length
  · rw [S.len]; exact hl
  · rw [List.getElem?_eq_none (by simpa using hl)] at h; cases h
theorem StOk.set (S : StOk K H0 G0 σ e H G) (i : Nat) {d : D} {v : V} (r : Rep K G d v) : StOk K H0 G0 (σ.set i (some v)) (e.set i (some (d, false))) H G := by
  refine ⟨S.ext, by rw [List.length_set, List.length_set]; exact S.len, fun j d' h => ?_, fun j d' h => ?_, fun j k d1 d2 a h1 h2 h3 h4 => ?_, fun j a d' hp h => ?_⟩
  · rcases set_get h with ⟨rfl, z⟩ | ⟨hj, z⟩
    · cases z
      exact ⟨v, List.getElem?_set_self (S.lt h), r⟩
    · obtain ⟨w, q1, q2⟩ := S.sh j d' z
      exact ⟨w, by rw [List.getElem?_set_ne (Ne.symm hj)]; exact q1, q2⟩
  · rcases set_get h with ⟨_, z⟩ | ⟨hj, z⟩
    · cases z
    · obtain ⟨a, q1, q2⟩ := S.ow j d' z
      exact ⟨a, by rw [List.getElem?_set_ne (Ne.symm hj)]; exact q1, q2⟩
  · rcases set_get h1 with ⟨_, z⟩ | ⟨hj, z1⟩
    · cases z
    · rcases set_get h2 with ⟨_, z⟩ | ⟨hk, z2⟩
      · cases z
      · rw [List.getElem?_set_ne (Ne.symm hj)] at h3
        rw [List.getElem?_set_ne (Ne.symm hk)] at h4
        exact S.ne j k d1 d2 a z1 z2 h3 h4
  · rcases set_get h with ⟨_, z⟩ | ⟨hj, z⟩
    · cases z
    · rw [List.getElem?_set_ne (Ne.symm hj)]; exact S.pn j a d' hp z
theorem StOk.setF (S : StOk K H0 G0 σ e H G) (i : Nat) {d : D} {a : Addr} {Hb : Hp} (hb : Sub H0.hp Hb) (ho : ∀ (j : Nat) d b, e[j]? = some (some (d, true)) → σ[j]? = some (some (.ref b)) → Hb b ≠ none) (ha : Hb a = none) (ga : G a = none) (rc : OwnC K H G d a) (hpin : H0.pin i = none) :
    StOk K H0 G0 (σ.set i (some (.ref a))) (e.set i (some (d, true))) H G := by
  have other : ∀ (j : Nat) d' b, e[j]? = some (some (d', true)) → σ[j]? = some (some (.ref b)) → b ≠ a := fun j d' b h1 h2 z => ho j d' b h1 h2 (by rw [z]; exact ha)
  refine ⟨S.ext, by rw [List.length_set, List.length_set]; exact S.len, fun j d' h => ?_, fun j d' h => ?_, fun j k d1 d2 b h1 h2 h3 h4 => ?_, fun j b d' hp h => ?_⟩
  · rcases set_get h with ⟨_, z⟩ | ⟨hj, z⟩
    · cases z
    · obtain ⟨w, q1, q2⟩ := S.sh j d' z
      exact ⟨w, by rw [List.getElem?_set_ne (Ne.symm hj)]; exact q1, q2⟩
  · rcases set_get h with ⟨rfl, z⟩ | ⟨hj, z⟩
    · cases z
      exact ⟨a, List.getElem?_set_self (S.lt h), hb.free ha, ga, rc⟩
    · obtain ⟨b, q1, q2⟩ := S.ow j d' z
      exact ⟨b, by rw [List.getElem?_set_ne (Ne.symm hj)]; exact q1, q2⟩
  · rcases set_get h1 with ⟨rfl, z1⟩ | ⟨hj, z1⟩
    · rw [List.getElem?_set_self (S.lt h1)] at h3
      cases h3
      rcases set_get h2 with ⟨e2, _⟩ | ⟨hk, z2⟩
      · exact e2.symm
      · rw [List.getElem?_set_ne (Ne.symm hk)] at h4
        exact absurd rfl (other k d2 a z2 h4)
    · rw [List.getElem?_set_ne (Ne.symm hj)] at h3
      rcases set_get h2 with ⟨rfl, _⟩ | ⟨hk, z2⟩
      · rw [List.getElem?_set_self (S.lt h2)] at h4
        cases h4
        exact absurd rfl (other j d1 a z1 h3)
      · rw [List.getElem?_set_ne (Ne.symm hk)] at h4
        exact S.ne j k d1 d2 b z1 z2 h3 h4
  · rcases set_get h with ⟨rfl, _⟩ | ⟨hj, z⟩
    · rw [hpin] at hp; cases hp
    · rw [List.getElem?_set_ne (Ne.symm hj)]; exact S.pn j b d' hp z
/-- the list or dict of a name is changed -/
theorem StOk.change (S : StOk K H0 G0 σ e H G) {i : Nat} {d d' : D} {a : Addr} {o : HO} (h : e[i]? = some (some (d, true))) (hs : σ[i]? = some (some (.ref a))) (rc : OwnC K (upd H a o) G d' a) :
    StOk K H0 G0 σ (e.set i (some (d', true))) (upd H a o) G := by
  obtain ⟨a', q1, q2, q3, q5⟩ := S.ow i d h
  rw [hs] at q1; cases q1
  have il : i < e.length := (List.getElem?_eq_some_iff.mp h).1
  have nG : ∀ {b u}, G b = some u → b ≠ a := fun {b u} z w => by rw [w, q3] at z; cases z
  have n0 : ∀ {b u}, H0.hp b = some u → b ≠ a := fun {b u} z w => by rw [w, q2] at z; cases z
  refine ⟨⟨fun b u z => by rw [upd_ne (n0 z)]; exact S.ext.hh _ _ z, S.ext.gg, fun b u z => by rw [upd_ne (nG z)]; exact S.ext.gh _ _ z, S.ext.new⟩, by rw [List.length_set]; exact S.len, fun j d1 h1 => ?_, fun j d1 h1 => ?_, fun j k d1 d2 b h1 h2 h3 h4 => ?_, fun j b d1 hp h1 => ?_⟩
  · rcases set_get h1 with ⟨_, z⟩ | ⟨hj, z⟩
    · cases z
    · exact S.sh j d1 z
  · rcases set_get h1 with ⟨rfl, z⟩ | ⟨hj, z⟩
    · cases z
      exact ⟨a, hs, q2, q3, rc⟩
    · obtain ⟨b, w1, w2, w3, w5⟩ := S.ow j d1 z
      have nb : b ≠ a := fun q => hj (S.ne j i d1 d b z h w1 (by rw [q]; exact hs))
      exact ⟨b, w1, w2, w3, w5.mono' (fun o' z => by rw [upd_ne nb]; exact z) (Sub.refl _)⟩
  · have k1 : ∃ d', e[j]? = some (some (d', true)) := by
      rcases set_get h1 with ⟨rfl, _⟩ | ⟨_, z⟩
      · exact ⟨d, h⟩
      · exact ⟨_, z⟩
    have k2 : ∃ d', e[k]? = some (some (d', true)) := by
      rcases set_get h2 with ⟨rfl, _⟩ | ⟨_, z⟩
      · exact ⟨d, h⟩
      · exact ⟨_, z⟩
    obtain ⟨x1, y1⟩ := k1
    obtain ⟨x2, y2⟩ := k2
    exact S.ne j k x1 x2 b y1 y2 h3 h4
  · rcases set_get h1 with ⟨rfl, _⟩ | ⟨_, z⟩
    · exact S.pn j b d hp h
    · exact S.pn j b d1 hp z
end
end DL

namespace DL
open PySem PySem.Spec PyProof.Rows L2
open PySem.Builtin.Int (intBits)

def SPost (K : PySem.W.Frag) (mg : Str → Option Value) (W : WX) (H0 : Bas) (G0 : Hp) (r : Out) (Z : Ends) : Prop := match r with
  | .nx e' => ∀ σ' H' G', StOk K H0 G0 σ' e' H' G' → Z.nx σ' H'
  | .bk e' => ∀ σ' H' G', StOk K H0 G0 σ' e' H' G' → Z.bk σ' H'
  | .ct e' => ∀ σ' H' G', StOk K H0 G0 σ' e' H' G' → Z.ct σ' H'
  | .rt d => ∀ v H' G', Ext H0.hp G0 H' G' → Rep K G' d v → Z.rt v H'
  | .ro d => ∀ a H' G', Ext H0.hp G0 H' G' → H0.hp a = none → G' a = none → OwnC K H' G' d a → Z.rt (.ref a) H'
  | .rm d e' => ∀ v σ' H' G', StOk K H0 G0 σ' e' H' G' → Rep K G' d v → Z.rt v H'
  | .ex c fs e' => ∀ cls o σ' H' G' H'', StOk K H0 G0 σ' e' H' G' → Sub H' H'' → IsExc K mg c fs cls o H'' → W cls o σ' H''
  | .bad => False
def tS (K : PySem.W.Frag) (mg : Str → Option Value) (W : WX) (H0 : Bas) (G0 : Hp) (f : Env → Out) : TS := fun Z σ H => ∃ e G, StOk K H0 G0 σ e H G ∧ SPost K mg W H0 G0 (f e) Z
abbrev DS (X : Cx) (W : WX) (H0 : Bas) (G0 : Hp) (st : Stmt) (f : Env → Out) : Prop := PS X st (tS X.K X.mg W H0 G0 f)
abbrev DSs (X : Cx) (W : WX) (H0 : Bas) (G0 : Hp) (st : List Stmt) (f : Env → Out) : Prop := PSs X st (tS X.K X.mg W H0 G0 f)

/-- a reckoning, then what follows -/
def sE {α : Type} (al : List Nat) (f : Env → Res α) (k : α → Env → Out) : Env → Out := fun e => match f e with
  | .ok a => k a (fz al e)
  | .exc c fs => .ex c fs (fz al e)
  | .bad => .bad
section
variable {X : Cx} {W : WX} {H0 : Bas} {G0 : Hp}
theorem sE_step {al : List Nat} {α : Type} {f : Env → Res α} {k : α → Env → Out} {σ : L2.St} {H : Hp} {Z : Ends} (h : tS X.K X.mg W H0 G0 (sE al f k) Z σ H) :
    LockT (fun H => ∃ e G, EnvG X.K (fun i => i ∈ al) σ e H G ∧ PostG X.K X.mg (fun c o H' => W c o σ H') H G (f e) fun a H' G' => StOk X.K H0 G0 σ (fz al e) H' G' ∧ SPost X.K X.mg W H0 G0 (k a (fz al e)) Z) H := by
  obtain ⟨e, G, S, p⟩ := h
  refine (S.exp al).imp fun H ⟨G1, GA, S1, E, nxt⟩ => ?_
  refine ⟨e, GA, E, ?_⟩
  unfold sE at p
  cases hr : f e with
  | ok a =>
    rw [hr] at p
    exact fun H' G' x => ⟨nxt H' G' x, p⟩
  | exc c fs =>
    rw [hr] at p
    exact fun cls o H' s ix => p cls o σ H GA H' (nxt H GA (Ext.refl E.sub)) s ix
  | bad =>
    rw [hr] at p
    exact p.elim

/-! ### the plain statements -/
variable {al : List Nat} {st : Stmt} {rest : List Stmt} {ex : Expr} {pos : Pos}
def sSkip : Env → Out := fun e => .nx e
def sSeq (f g : Env → Out) : Env → Out := fun e => match f e with
  | .nx e' => g e'
  | r => r
theorem dss_nil : DSs X W H0 G0 [] sSkip := pss_nil.imp fun Z σ H ⟨e, G, S, p⟩ => p σ H G S
theorem dss_cons {f g : Env → Out} (h1 : DS X W H0 G0 st f) (h2 : DSs X W H0 G0 rest g) : DSs X W H0 G0 (st :: rest) (sSeq f g) :=
  (pss_cons h1 h2).imp fun Z σ H ⟨e, G, S, p⟩ => ⟨e, G, S, by
    unfold sSeq at p
    cases hr : f e with
    | nx e' => rw [hr] at p; exact fun σ' H' G' S' => ⟨e', G', S', p⟩
    | rt d => rw [hr] at p; exact p
    | ro d => rw [hr] at p; exact p
    | rm d e' => rw [hr] at p; exact p
    | bk e' => rw [hr] at p; exact p
    | ct e' => rw [hr] at p; exact p
    | ex c fs e' => rw [hr] at p; exact p
    | bad => rw [hr] at p; exact p⟩
def sBreak : Env → Out := fun e => .bk e
def sCont : Env → Out := fun e => .ct e
def sRet (al : List Nat) (f : Env → Res D) : Env → Out := sE al f fun d _ => .rt d
theorem ds_ret {f : Env → Res D} (h : DE X W (fun i => i ∈ al) ex f) : DS X W H0 G0 (.Return (some ex) pos) (sRet al f) :=
  (ps_ret h).lk fun Z σ H hq => (sE_step hq).imp fun H ⟨e, G, E, p⟩ => by
    exact ⟨e, G, E, p.imp fun d H' G' x ⟨S, q⟩ v r => q v H' G' S.ext r⟩
/-- return x, x a list or dict of its own -/
def sRetO (i : Nat) : Env → Out := fun e => match e[i]? with
  | some (some (d, true)) => .ro d
  | some (some (d, false)) => .rt d
  | _ => .bad
/-- return of a new list or dict -/
def sRetF (al : List Nat) (f : Env → Res D) : Env → Out := sE al f fun d _ => .ro d
def sRetN : Env → Out := fun _ => .rt .non
def sIf (al : List Nat) (ft : Env → Res Bool) (f g : Env → Out) : Env → Out := sE al ft fun b e => if b = true then f e else g e
theorem ds_if {c : Expr} {a b : List Stmt} {ft : Env → Res Bool} {f g : Env → Out} (hc : DT X W (fun i => i ∈ al) c ft) (ha : DSs X W H0 G0 a f) (hb : DSs X W H0 G0 b g) : DS X W H0 G0 (.If c a b pos) (sIf al ft f g) :=
  (ps_if hc ha hb).lk fun Z σ H hq => (sE_step hq).imp fun H ⟨e, G, E, p⟩ => by
    refine ⟨e, G, E, p.imp fun k H' G' x ⟨S, q⟩ => ?_⟩
    cases k with
    | true => rw [if_pos rfl] at q ⊢; exact ⟨_, G', S, q⟩
    | false => rw [if_neg Bool.false_ne_true] at q ⊢; exact ⟨_, G', S, q⟩
def sDrop (al : List Nat) (f : Env → Res D) : Env → Out := sE al f fun _ e => .nx e
/-- x = e -/
def sSet (al : List Nat) (i : Nat) (f : Env → Res D) : Env → Out := sE al f fun d e => .nx (e.set i (some (d, false)))
theorem ds_set {i : Nat} {x : Str} {pos' : Pos} {f : Env → Res D} (hN : X.N.Nodup) (hi : X.N[i]? = some x) (hx : Loc X.env.scope x) (h : DE X W (fun i => i ∈ al) ex f) (hs : swapsWith ex (some (.Name x pos')) pos.line X.env = pure false := by rfl)
    (hf : X.fn x = true ∨ X.env.scope.names.lookup x = some .local := by first | exact .inl rfl | exact .inr rfl | assumption) : DS X W H0 G0 (.Assign [.Name x pos'] ex pos) (sSet al i f) :=
  (ps_set hN hi hx h hs hf).lk fun Z σ H hq => (sE_step hq).imp fun H ⟨e, G, E, p⟩ => by
    exact ⟨e, G, E, p.imp fun d H' G' _ ⟨S, q⟩ v r => q _ H' G' (S.set i r)⟩
/-- x = a new list or dict, to be changed -/
def sSetF (al : List Nat) (i : Nat) (f : Env → Res D) : Env → Out := sE al f fun d e => .nx (e.set i (some (d, true)))
theorem ds_setF {i : Nat} {x : Str} {pos' : Pos} {f : Env → Res D} (hN : X.N.Nodup) (hi : X.N[i]? = some x) (hx : Loc X.env.scope x) (h : DF X W (fun i => i ∈ al) ex f) (hs : swapsWith ex (some (.Name x pos')) pos.line X.env = pure false := by rfl)
    (hf : X.fn x = true ∨ X.env.scope.names.lookup x = some .local := by first | exact .inl rfl | exact .inr rfl | assumption) (hpin : H0.pin i = none := by rfl) : DS X W H0 G0 (.Assign [.Name x pos'] ex pos) (sSetF al i f) :=
  (ps_set hN hi hx h hs hf).lk fun Z σ H ⟨e, G, S, p⟩ => (S.exp al).imp fun H ⟨G1, GA, S1, E, nxt⟩ => by
    refine ⟨e, GA, E, ?_⟩
    unfold sSetF sE at p
    cases hr : f e with
    | ok d =>
      rw [hr] at p
      intro H' G' x a ha ga rc
      have S' := nxt H' G' x
      refine p _ H' G' (S'.setF i (Hb := H) S1.ext.hh (fun j d' b h1 h2 => ?_) ha ga rc hpin)
      have w1 := fz_fzD_own h1
      obtain ⟨a', q1, _, _, q4⟩ := S1.ow j d' w1
      rw [h2] at q1; cases q1
      exact q4.is
    | exc c fs =>
      rw [hr] at p
      exact fun cls o H' s ix => p cls o σ H GA H' (nxt H GA (Ext.refl E.sub)) s ix
    | bad => rw [hr] at p; exact p.elim

/-! ### a, b = e -/
inductive Pat where
  | nm (i : Nat)
  | tp (ps : List Pat)
mutual
def Pat.bind : Pat → D → Env → Res Env
  | .nm i, d, e => .ok (e.set i (some (d, false)))
  | .tp ps, d, e => match d with
    | .tup ds => Pat.binds ps ds e
    | _ => .bad
def Pat.binds : List Pat → List D → Env → Res Env
  | [], [], e => .ok e
  | p :: ps, d :: ds, e => (Pat.bind p d e).bind fun e' => Pat.binds ps ds e'
  | _, _, _ => .bad
end
mutual
def Pat.slots : Pat → List Nat
  | .nm i => [i]
  | .tp ps => Pat.slotss ps
def Pat.slotss : List Pat → List Nat
  | [] => []
  | p :: ps => Pat.slots p ++ Pat.slotss ps
end
/-- what stays where a name of these is stored -/
def Setable (K : PySem.W.Frag) (sl : List Nat) (R : L2.St → Env → Hp → Hp → Prop) : Prop := ∀ σ e H G i d v, i ∈ sl → R σ e H G → Rep K G d v → R (σ.set i (some v)) (e.set i (some (d, false))) H G
/-- a target's reading: it stores by the pattern -/
def DG (X : Cx) (tg : Expr) (p : Pat) : Prop :=
  ∃ g, PG X tg g ∧ ∀ (R : L2.St → Env → Hp → Hp → Prop), Setable X.K p.slots R → ∀ (v : V) (σ : L2.St) (H G : Hp) (d : D) (e e' : Env) (Q : L2.St → Hp → Prop), R σ e H G → Sub G H → Rep X.K G d v → p.bind d e = .ok e' → (∀ σ', R σ' e' H G → Q σ' H) → g v σ H Q
def DGs (X : Cx) (tgs : List Expr) (ps : List Pat) : Prop :=
  ∃ g, PGs X tgs g ∧ ∀ (R : L2.St → Env → Hp → Hp → Prop), Setable X.K (Pat.slotss ps) R → ∀ (vs : List V) (σ : L2.St) (H G : Hp) (ds : List D) (e e' : Env) (Q : L2.St → Hp → Prop), R σ e H G → Sub G H → RepL X.K G ds vs → Pat.binds ps ds e = .ok e' → (∀ σ', R σ' e' H G → Q σ' H) → g vs σ H Q
theorem dg_name {i : Nat} {x : Str} (hN : X.N.Nodup) (hi : X.N[i]? = some x) (hx : Loc X.env.scope x) (hf : X.fn x = true ∨ X.env.scope.names.lookup x = some .local := by first | exact .inl rfl | exact .inr rfl | assumption) : DG X (.Name x pos) (.nm i) :=
  ⟨_, pg_name hN hi hx hf, fun R hR v σ H G d e e' Q S sg r h q => by
    cases h
    exact q _ (hR σ e H G i d v (by simp [Pat.slots]) S r)⟩
theorem dgs_nil : DGs X [] [] := ⟨_, pgs_nil, fun R hR vs σ H G ds e e' Q S sg r h q => by
  cases ds with
  | nil => cases h; exact ⟨r, q σ S⟩
  | cons d ds => cases h⟩
theorem dgs_cons {tg : Expr} {tgs : List Expr} {p : Pat} {ps : List Pat} (h1 : DG X tg p) (h2 : DGs X tgs ps)
    (hs : (assignEach (tg :: tgs) X.env).map (·.2) = assign tg X.env :: (assignEach tgs X.env).map (·.2) := by rfl) : DGs X (tg :: tgs) (p :: ps) := by
  obtain ⟨g1, a1, b1⟩ := h1
  obtain ⟨g2, a2, b2⟩ := h2
  refine ⟨_, pgs_cons a1 a2 hs, fun R hR vs σ H G ds e e' Q S sg r h q => ?_⟩
  cases ds with
  | nil => cases h
  | cons d ds =>
    obtain ⟨v, vr, ev, r1, r2⟩ := r
    dsimp only [Pat.binds] at h
    cases hb : p.bind d e with
    | exc c fs => rw [hb] at h; cases h
    | bad => rw [hb] at h; cases h
    | ok e1 =>
      rw [hb] at h
      refine ⟨v, vr, ev, b1 R (fun σ e H G i d v hi => hR σ e H G i d v (by simp [Pat.slotss, hi])) v σ H G d e e1 _ S sg r1 hb fun σ' S' => ?_⟩
      exact b2 R (fun σ e H G i d v hi => hR σ e H G i d v (by simp [Pat.slotss, hi])) vr σ' H G ds e1 e' Q S' sg r2 h q
theorem binds_length : ∀ (ps : List Pat) (ds : List D) (e e' : Env), Pat.binds ps ds e = .ok e' → ds.length = ps.length := by
  intro ps
  induction ps with
  | nil => intro ds e e' h; cases ds with
    | nil => rfl
    | cons _ _ => cases h
  | cons p ps ih => intro ds e e' h; cases ds with
    | nil => cases h
    | cons d ds =>
      dsimp only [Pat.binds] at h
      cases hb : p.bind d e with
      | exc c fs => rw [hb] at h; cases h
      | bad => rw [hb] at h; cases h
      | ok e1 => rw [hb] at h; rw [List.length_cons, List.length_cons, ih ds e1 e' h]
theorem dg_tup {tgs : List Expr} {k : Nat} {ps : List Pat} {n : Nat} (hc : X.calm = true) (h : DGs X tgs ps) (hl : ps.length = n)
    (hn : (assignEach tgs X.env).length = n := by rfl) (hst : (assignEach tgs X.env).findIdx? (·.1) = none := by rfl) : DG X (.Tuple tgs k pos) (.tp ps) := by
  obtain ⟨g, a, b⟩ := h
  refine ⟨_, pg_tup hc a hn hst, fun R hR v σ H G d e e' Q S sg r h q => ?_⟩
  cases d with
  | tup ds =>
    obtain ⟨p, vs, ev, s, r⟩ := r
    have h : Pat.binds ps ds e = .ok e' := h
    exact ⟨p, vs, ev, sg.pt s, by rw [r.length, binds_length ps ds e e' h, hl], b R (fun σ e H G i d v hi => hR σ e H G i d v (by simpa [Pat.slots] using hi)) vs σ H G ds e e' Q S sg r h q⟩
  | _ => cases h
theorem st_setable {K : PySem.W.Frag} {sl : List Nat} : Setable K sl (StOk K H0 G0) := fun σ e H G i d v _ S r => S.set i r
def sAsg (al : List Nat) (p : Pat) (f : Env → Res D) : Env → Out := sE al f fun d e => match p.bind d e with
  | .ok e' => .nx e'
  | _ => .bad
theorem ds_asg {tg : Expr} {p : Pat} {f : Env → Res D} (h : DE X W (fun i => i ∈ al) ex f) (hg : DG X tg p) (hs : swapsWithSole [tg] ex pos.line X.env = pure false := by rfl) (hw : swappedStores [tg] ex X.env = pure none := by rfl)
    (h1 : (assignEach [tg] X.env).map (·.2) = [assign tg X.env] := by rfl) : DS X W H0 G0 (.Assign [tg] ex pos) (sAsg al p f) := by
  obtain ⟨g, a, b⟩ := hg
  refine (ps_asg h a hs hw h1).lk fun Z σ H hq => (sE_step hq).imp fun H ⟨e, G, E, p⟩ => ?_
  refine ⟨e, G, E, p.imp fun d H' G' x ⟨S, q⟩ v r => ?_⟩
  cases hb : Pat.bind _ d (fz al e) with
  | ok e' =>
    rw [hb] at q
    exact b _ st_setable v σ H' G' d _ e' _ S S.ext.gh r hb fun σ2 S2 => q σ2 H' G' S2
  | exc c fs => rw [hb] at q; exact q.elim
  | bad => rw [hb] at q; exact q.elim

/-! ### lists changed in place -/
/-- the list that the name i holds, to be changed -/
def ownL (i : Nat) (e : Env) (k : List D → Out) : Out := match e[i]? with
  | some (some (.lst xs, true)) => k xs
  | _ => .bad
theorem StOk.ownL {σ : L2.St} {e : Env} {H G : Hp} {K : PySem.W.Frag} (S : StOk K H0 G0 σ e H G) {i : Nat} {xs : List D} (h : e[i]? = some (some (.lst xs, true))) : ∃ a vs, σ[i]? = some (some (.ref a)) ∧ H a = some (.lst vs) ∧ RepL K G xs vs := by
  obtain ⟨a, q1, q2, q3, vs, e, r⟩ := S.ow i _ h
  exact ⟨a, vs, q1, e, r⟩
end
end DL

namespace DL
open PySem PySem.Spec PyProof.Rows L2
open PySem.Builtin.Int (intBits)
section
variable {X : Cx} {W : WX} {H0 : Bas} {G0 : Hp} {al : List Nat} {ex : Expr} {es : List Expr} {pos apos cpos p1 p2 : Pos}
/-- a method that changes its list -/
def MutL (X : Cx) (id : String) (g : List D → List D → Option (List D)) : Prop :=
  ∃ r, MtR X id r ∧ ∀ (G H : Hp) (a : Addr) (xs : List D) (vs : List V) (ds : List D) (ws : List V) (xs' : List D) (Q : Hp → Prop), Sub G H → H a = some (.lst vs) → RepL X.K G xs vs → RepL X.K G ds ws → g xs ds = some xs' →
    (∀ vs', RepL X.K G xs' vs' → Q (upd H a (.lst vs'))) → r (.ref a) ws H fun _ H' => Q H'
def sMut (al : List Nat) (i : Nat) (g : List D → List D → Option (List D)) (fs : Env → Res (List D)) : Env → Out := fun e => ownL i (fz al e) fun xs => sE al fs (fun ds e' => match g xs ds with
  | some xs' => .nx (e'.set i (some (.lst xs', true)))
  | none => .bad) e
theorem ownL_inv {i : Nat} {e : Env} {k : List D → Out} {Z : Ends} {K : PySem.W.Frag} {mg : Str → Option Value} (p : SPost K mg W H0 G0 (ownL i e k) Z) : ∃ xs, e[i]? = some (some (.lst xs, true)) ∧ SPost K mg W H0 G0 (k xs) Z := by
  unfold ownL at p
  split at p
  · rename_i xs h; exact ⟨xs, h, p⟩
  · exact p.elim
theorem ds_mut {i : Nat} {x name : Str} {id : String} {g : List D → List D → Option (List D)} {fs : Env → Res (List D)} (slot : Slot "list" name id) (hty : typeOf (.builtin id) = pure (.type "method_descriptor")) (hm : MutL X id g)
    (hN : X.N[i]? = some x) (hv : Vis X.env.scope x) (h : DA X W (fun i => i ∈ al) (ex :: es) fs)
    (hd : (x == ("__debug__" : Str)) = false := by decide) (hcd : (x == ("__classdict__" : Str)) = false := by decide)
    (hbase : attributeBase (.Name x p1) name X.env (eval (.Name x p1) X.env) = eval (.Name x p1) X.env := by rfl)
    (hfew : ((backTo cpos (starEach (ex :: es) X.env)).all (fun x => !x.1) && (backToKw cpos (keywordEach [] X.env)).all (fun x => x.1.isSome)
      && decide ((ex :: es).length + ([] : List Keyword).length + (if ([] : List Keyword).isEmpty then 0 else 1) < 30)) = true := by rfl)
    (hline : (apos.endLine == cpos.line) = true := by rfl) (hs : starEach (ex :: es) X.env = (false, eval ex X.env) :: starEach es X.env := by rfl) (hplain : (backTo cpos (starEach es X.env)).any (·.1) = false := by rfl)
    (hsw : swapsWith (.Call (.Attribute (.Name x p1) name apos) (ex :: es) [] cpos) none pos.line X.env = pure false := by rfl) :
    DS X W H0 G0 (.Expr (.Call (.Attribute (.Name x p1) name apos) (ex :: es) [] cpos) pos) (sMut al i g fs) := by
  obtain ⟨r, m1, m2⟩ := hm
  refine (ps_expr (pe_bm PySem.F.plainAttrs_list slot hty m1 (pe_var hN hv hd hcd) h hbase hfew hline hs hplain) hsw).lk fun Z σ H ⟨e, G, S, p⟩ => (S.exp al).imp fun H ⟨G1, GA, S0, E, nxt⟩ => ?_
  have S1 := nxt H GA (Ext.refl E.sub)
  obtain ⟨xs, hx, p⟩ := ownL_inv p
  obtain ⟨a, vs, q1, q2, q3⟩ := S1.ownL hx
  refine ⟨.ref a, q1, .inl ⟨rfl, vs, SqL.of q2⟩, e, GA, E, ?_⟩
  unfold sE at p
  cases hr : fs e with
  | exc c fs' =>
    rw [hr] at p
    exact fun cls o H' s ix => p cls o σ H GA H' S1 s ix
  | bad => rw [hr] at p; exact p.elim
  | ok ds =>
    rw [hr] at p
    intro H' G' x ws rw
    have S2 := nxt H' G' x
    cases hg : g xs ds with
    | none => simp only [hg] at p; exact p.elim
    | some xs' =>
      simp only [hg] at p
      exact m2 G' H' a xs vs ds ws xs' (fun H3 => Z.nx σ H3) x.gh (x.hh _ _ q2) (q3.mono x.gg) rw hg fun vs' r' => p σ _ G' (S2.change hx q1 ⟨vs', upd_same, r'⟩)
def gAppend : List D → List D → Option (List D) := fun xs ds => match ds with
  | [d] => if xs.length < sizeLine then some (xs ++ [d]) else none
  | _ => none
theorem mut_append : MutL X "list.append" gAppend := by
  refine ⟨_, mt_append, fun G H a xs vs ds ws xs' Q sg ha r1 r2 hg q => ?_⟩
  match ds, hg with
  | [d], hg =>
    obtain ⟨w, _, rfl, rw, e⟩ := r2
    have e : _ = [] := e
    subst e
    dsimp only [gAppend] at hg
    by_cases hc : xs.length < sizeLine
    · rw [if_pos hc] at hg
      cases hg
      exact ⟨a, vs, w, rfl, rfl, ha, by rw [r1.length]; exact hc, q _ (r1.append (.cons rw .nil))⟩
    · rw [if_neg hc] at hg; cases hg
/-- xs[i] = v -/
def sPutL (al : List Nat) (i : Nat) (fk fv : Env → Res D) : Env → Out := fun e => ownL i (fz al e) fun xs => sE al (fun e => (fv e).bind fun v => (fk e).bind fun k => .ok (k, v)) (fun kv e' => match kv.1 with
  | .int k => match ixN xs.length k with
    | some j => .nx (e'.set i (some (.lst (xs.set j kv.2), true)))
    | none => .bad
  | _ => .bad) e
theorem ds_putL {i : Nat} {x : Str} {ik ev : Expr} {fk fv : Env → Res D} (hN : X.N[i]? = some x) (hv : Vis X.env.scope x) (hk : DE X W (fun i => i ∈ al) ik fk) (he : DE X W (fun i => i ∈ al) ev fv)
    (hd : (x == ("__debug__" : Str)) = false := by decide) (hcd : (x == ("__classdict__" : Str)) = false := by decide)
    (ha : ∀ v, assign (.Subscript (.Name x p1) ik p2) X.env v = (do
      let ov ← holding [v] (eval (.Name x p1) X.env)
      let iv ← holding [v, ov] (eval ik X.env)
      standAt p2
      holding [v, ov, iv] (setItem ov iv v)
      release [v, ov, iv] []) := by intro _; rfl)
    (hs : swapsWithSole [.Subscript (.Name x p1) ik p2] ev pos.line X.env = pure false := by rfl) (hw : swappedStores [.Subscript (.Name x p1) ik p2] ev X.env = pure none := by rfl)
    (h1 : (assignEach [.Subscript (.Name x p1) ik p2] X.env).map (·.2) = [assign (.Subscript (.Name x p1) ik p2) X.env] := by rfl) :
    DS X W H0 G0 (.Assign [.Subscript (.Name x p1) ik p2] ev pos) (sPutL al i fk fv) := by
  refine (ps_asg he (pg_sub (pe_var hN hv hd hcd) hk set_list ha) hs hw h1).lk fun Z σ H ⟨e, G, S, p⟩ => (S.exp al).imp fun H ⟨G1, GA, S0, E, nxt⟩ => ?_
  have S1 := nxt H GA (Ext.refl E.sub)
  obtain ⟨xs, hx, p⟩ := ownL_inv p
  obtain ⟨a, vs, q1, q2, q3⟩ := S1.ownL hx
  unfold sE at p
  dsimp only at p
  refine ⟨e, GA, E, ?_⟩
  cases hr : fv e with
  | exc c fs' =>
    rw [hr] at p
    exact fun cls o H' s ix => p cls o σ H GA H' S1 s ix
  | bad => rw [hr] at p; exact p.elim
  | ok dv =>
    rw [hr] at p
    intro H1 G1 x1 v rv
    refine ⟨.ref a, q1, e, G1, E.ext x1, ?_⟩
    cases hr2 : fk e with
    | exc c fs' =>
      simp only [Res.bind_ok, hr2] at p
      exact fun cls o H' s ix => p cls o σ H1 G1 H' (nxt H1 G1 x1) s ix
    | bad => simp only [Res.bind_ok, hr2] at p; exact p.elim
    | ok dk =>
      simp only [Res.bind_ok, hr2] at p
      intro H2 G2 x2 k rk
      have S2 := nxt H2 G2 (x1.trans x2)
      cases dk with
      | int n =>
        simp only [] at p
        cases hj : ixN xs.length n with
        | none => simp only [hj] at p; exact p.elim
        | some j =>
          simp only [hj] at p
          have xx := x1.trans x2
          refine ⟨a, vs, n, j, rfl, rk, xx.hh _ _ q2, by rw [q3.length]; exact hj, ?_⟩
          exact p σ _ G2 (S2.change hx q1 ⟨_, upd_same, (q3.mono xx.gg).set (rv.mono x2.gg) j⟩)
      | _ => exact (show False from p).elim

/-! ### what a loop walks -/
/-- J yields ds; what is walked is read in B, its items in G -/
structure WalkOf (K : PySem.W.Frag) (J : It) (ds : List D) (B G : Hp) : Prop where
  go : ∀ H i, Sub B H → i < ds.length → J.go i H
  stop : ∀ H, Sub B H → J.stop ds.length H
  yld : ∀ H G2 i x H', Sub B H → Sub G G2 → Sub G2 H → i < ds.length → J.yld i H x H' → ∃ d G', ds[i]? = some d ∧ Ext H G2 H' G' ∧ Rep K G' d x
def tI (K : PySem.W.Frag) (mg : Str → Option Value) (W : WX) (A : Nat → Prop) (f : Env → Res (List D)) : TI := fun σ H R => ∃ e G, EnvG K A σ e H G ∧ PostG K mg (fun c o H' => W c o σ H') H G (f e) fun ds H' G' => ∀ J, WalkOf K J ds G' G' → R J H'
def tIR (K : PySem.W.Frag) (mg : Str → Option Value) (W : WX) (A : Nat → Prop) (f : Env → Res (List D)) : TI := fun σ H R => ∃ e G, EnvG K A σ e H G ∧ PostG K mg (fun c o H' => W c o σ H') H G (f e) fun ds H' G' => ∀ J, WalkOf K J ds H' G' → R J H'
abbrev DI (X : Cx) (W : WX) (A : Nat → Prop) (tg ex : Expr) (f : Env → Res (List D)) : Prop := PI X tg ex (tI X.K X.mg W A f)
abbrev DIR (X : Cx) (W : WX) (A : Nat → Prop) (tg ex : Expr) (f : Env → Res (List D)) : Prop := PI X tg ex (tIR X.K X.mg W A f)
theorem walk_list {K : PySem.W.Frag} {B G : Hp} {a : Addr} {ds : List D} {vs : List V} (s : SqL K B a vs) (r : RepL K G ds vs) : WalkOf K (Itl K a) ds B G where
  go := fun H i h hi => by
    have hl : i < vs.length := by rw [r.length]; exact hi
    exact ⟨vs, vs[i], h.sql s, by simp [hl]⟩
  stop := fun H h => ⟨vs, h.sql s, by rw [r.length]; exact Nat.le_refl _⟩
  yld := fun H G2 i x H' h g g2 hi y => by
    obtain ⟨e, y⟩ := y
    subst e
    obtain ⟨d, h1, h2⟩ := r.get' (y vs (h.sql s))
    exact ⟨d, G2, h1, Ext.refl g2, h2.mono g⟩
theorem walk_tup {K : PySem.W.Frag} {B G : Hp} {a : Addr} {ds : List D} {vs : List V} (s : SqT K B a vs) (r : RepL K G ds vs) : WalkOf K (Itt K a) ds B G where
  go := fun H i h hi => by
    have hl : i < vs.length := by rw [r.length]; exact hi
    exact ⟨vs, vs[i], h.sqt s, by simp [hl]⟩
  stop := fun H h => ⟨vs, h.sqt s, by rw [r.length]; exact Nat.le_refl _⟩
  yld := fun H G2 i x H' h g g2 hi y => by
    obtain ⟨e, y⟩ := y
    subst e
    obtain ⟨d, h1, h2⟩ := r.get' (y vs (h.sqt s))
    exact ⟨d, G2, h1, Ext.refl g2, h2.mono g⟩
theorem walk_range {K : PySem.W.Frag} {B G : Hp} (lo : Int) (n : Nat) : WalkOf K (Itr lo n) ((List.range n).map fun i => D.int (lo + (i : Nat))) B G where
  go := fun H i h hi => by
    show i < n
    simpa using hi
  stop := fun H h => by
    show n ≤ _
    simp
  yld := fun H G2 i x H' h g g2 hi y => by
    obtain ⟨e, y⟩ := y
    subst e
    have hi' : i < n := by simpa using hi
    exact ⟨.int (lo + i), G2, by simp [hi'], Ext.refl g2, y⟩
/-- over a list or tuple -/
def iSeq (f : Env → Res D) : Env → Res (List D) := fun e => (f e).bind fun d => match d with
  | .lst xs => .ok xs
  | .tup xs => .ok xs
  | .con xs => .ok xs
  | _ => .bad
/-- what is walked: a list or a tuple -/
def iSq (K : PySem.W.Frag) (te : TE) : TI := fun σ H R => te σ H fun x H1 => ∃ a, x = .ref a ∧ (((∃ xs, SqL K H1 a xs) ∧ R (Itl K a) H1) ∨ ((∃ xs, SqT K H1 a xs) ∧ R (Itt K a) H1))
theorem pi_sq {tg l : Expr} {tl : TE} (hl : PE X l tl) : PI X tg l (iSq X.K tl) := by
  refine ⟨fun pins s σ H R I h => ?_⟩
  refine thn (hl.run pins s σ H _ I h) fun v s1 ⟨x, H1, I1, r1, q1⟩ => ?_
  obtain ⟨a, e, q⟩ := q1
  subst e
  cases r1
  rcases q with ⟨⟨xs, hq⟩, q⟩ | ⟨⟨xs, hq⟩, q⟩
  · obtain ⟨its, rv, p, hz⟩ := I1.list hq
    refine wpAny_pyIter_list p.isList ?_
    refine ⟨s1.heap.objs.size, [s1.heap.objs.size], _, _, H1, rfl, I1.kept (t' := s1.toks) fun b o e => Heap.get?_push_of_some _ e, turn_list a _, ⟨_, Heap.get?_push_size _ rfl, rfl, rfl⟩, fun b hb => ?_, q⟩
    have e : b = s1.heap.objs.size := by simpa using hb
    subst e
    exact I1.fpOk (Nat.le_refl _) (I1.hok.fresh (Nat.le_refl _))
  · obtain ⟨its, rv, p, hz⟩ := I1.tuple hq
    refine wpAny_pyIter_tuple (show s1.heap.IsTuple a its.toArray from p) ?_
    refine ⟨s1.heap.objs.size, [s1.heap.objs.size], _, _, H1, rfl, I1.kept (t' := s1.toks) fun b o e => Heap.get?_push_of_some _ e, turn_tuple a _, ⟨_, Heap.get?_push_size _ rfl, rfl, rfl⟩, fun b hb => ?_, q⟩
    have e : b = s1.heap.objs.size := by simpa using hb
    subst e
    exact I1.fpOk (Nat.le_refl _) (I1.hok.fresh (Nat.le_refl _))
variable {A : Nat → Prop}
theorem di_seq {tg : Expr} {f : Env → Res D} (h : DE X W A ex f) : DI X W A tg ex (iSeq f) :=
  (pi_sq h).imp fun σ H Q ⟨e, G, E, p⟩ => ⟨e, G, E, p.split.imp fun d H1 G1 x1 p1 v rv => by
    cases d with
    | lst xs =>
      obtain ⟨a, vs, rfl, s, r⟩ := rv
      exact ⟨a, rfl, .inl ⟨⟨vs, x1.gh.sql s⟩, PostG.here (a := xs) p1 x1.gh _ (walk_list s r)⟩⟩
    | tup xs =>
      obtain ⟨a, vs, rfl, s, r⟩ := rv
      exact ⟨a, rfl, .inr ⟨⟨vs, x1.gh.pt s⟩, PostG.here (a := xs) p1 x1.gh _ (walk_tup (SqT.of s) r)⟩⟩
    | con xs =>
      obtain ⟨a, vs, rfl, s, r⟩ := rv
      exact ⟨a, rfl, .inr ⟨⟨vs, x1.gh.sqt s⟩, PostG.here (a := xs) p1 x1.gh _ (walk_tup s r)⟩⟩
    | _ => exact (show False from p1).elim⟩
theorem WalkOf.low {K : PySem.W.Frag} {J : It} {ds : List D} {B B' G : Hp} (h : WalkOf K J ds B G) (s : Sub B B') : WalkOf K J ds B' G :=
  ⟨fun H i z => h.go H i (s.trans z), fun H z => h.stop H (s.trans z), fun H G2 i x H' z => h.yld H G2 i x H' (s.trans z)⟩
theorem dir_of {tg : Expr} {f : Env → Res (List D)} (h : DI X W A tg ex f) : DIR X W A tg ex f :=
  h.imp fun σ H Q ⟨e, G, E, p⟩ => ⟨e, G, E, p.imp fun ds H1 G1 x1 q J w => q J (w.low x1.gh)⟩
/-! ranges -/
def rangeD (lo hi : Int) : List D := (List.range (hi - lo).toNat).map fun i => D.int (lo + (i : Nat))
def iRange1 (f : Env → Res D) : Env → Res (List D) := fun e => (f e).bind fun d => match d with
  | .int n => if -(2 ^ 62) ≤ n ∧ n < 2 ^ 62 then .ok (rangeD 0 n) else .bad
  | _ => .bad
def iRange2 (f g : Env → Res D) : Env → Res (List D) := fun e => (f e).bind fun d => (g e).bind fun d2 => match d, d2 with
  | .int m, .int n => if -(2 ^ 62) ≤ m ∧ m < 2 ^ 62 ∧ -(2 ^ 62) ≤ n ∧ n < 2 ^ 62 then .ok (rangeD m n) else .bad
  | _, _ => .bad
theorem di_range1 {tg a : Expr} {p : Pos} {f : Env → Res D} (hg : Gl X "range") (hm : X.mg "range" = none) (ha : DE X W A a f) (hs : starEach [a] X.env = [(false, eval a X.env)] := by rfl) : DI X W A tg (.Call (.Name "range" p) [a] [] pos) (iRange1 f) :=
  (pi_range1 hg hm (pa_cons ha pa_nil hs) hs).imp fun σ H Q ⟨e, G, E, p⟩ => ⟨e, G, E, p.split.imp fun d H1 G1 x1 p1 v rv => by
    cases d with
    | int n =>
      have ev : v = .int n := rv
      subst ev
      dsimp only at p1
      by_cases hc : -(2 ^ 62) ≤ n ∧ n < 2 ^ 62
      · rw [if_pos hc] at p1
        refine ⟨n, rfl, hc.1, hc.2, p1.here x1.gh _ ?_⟩
        have : rangeD 0 n = (List.range n.toNat).map fun i => D.int (0 + (i : Nat)) := by unfold rangeD; rw [Int.sub_zero]
        rw [this]
        exact walk_range 0 n.toNat
      · rw [if_neg hc] at p1; exact p1.elim
    | _ => exact (show False from p1).elim⟩
/-! ### for -/
theorem StOk.step {K : PySem.W.Frag} {σ : L2.St} {e : Env} {H G H' G' : Hp} (S2 : StOk K H0 G0 σ e H G) (x3 : Ext H G H' G') : StOk K H0 G0 σ e H' G' := by
  refine ⟨S2.ext.trans x3, S2.len, fun j d' h => ?_, fun j d' h => ?_, S2.ne, S2.pn⟩
  · obtain ⟨v, w1, w2⟩ := S2.sh j d' h
    exact ⟨v, w1, w2.mono x3.gg⟩
  · obtain ⟨a, w1, w2, w3, w4⟩ := S2.ow j d' h
    refine ⟨a, w1, w2, ?_, w4.mono x3.hh x3.gg⟩
    cases hga : G' a with
    | none => rfl
    | some u =>
      rcases x3.new a (by rw [hga]; simp) with z | z
      · exact absurd w3 z
      · exact absurd z w4.nfr
theorem Ext.down {H G1 H1 G G' H' : Hp} (x : Ext H G H' G') (y : Ext H G1 H1 G) : Ext H G1 H' G' :=
  ⟨x.hh, y.gg.trans x.gg, x.gh, fun b z => by
    rcases x.new b z with z | z
    · exact y.new b z
    · exact .inr z⟩
theorem StOk.down {K : PySem.W.Frag} {σ : L2.St} {e : Env} {H G H1 G1 : Hp} (S : StOk K H0 G1 σ e H G) (y : Ext H0.hp G0 H1 G1) : StOk K H0 G0 σ e H G := ⟨S.ext.down y, S.len, S.sh, S.ow, S.ne, S.pn⟩
theorem StOk.up {K : PySem.W.Frag} {σ : L2.St} {e : Env} {H G G1 : Hp} (S : StOk K H0 G0 σ e H G) (s : Sub G1 G) (h : ∀ b, G b ≠ none → G1 b ≠ none ∨ Fr1 H0.hp b := by exact fun b z => .inl z) : StOk K H0 G1 σ e H G := ⟨⟨S.ext.hh, s, S.ext.gh, h⟩, S.len, S.sh, S.ow, S.ne, S.pn⟩
/-- the turns -/
def turns (p : Pat) (body : Env → Out) : List D → Env → Out
  | [], e => .nx e
  | d :: ds, e => match p.bind d e with
    | .ok e1 => match body e1 with
      | .nx e2 => turns p body ds e2
      | .ct e2 => turns p body ds e2
      | .bk e2 => .nx e2
      | .rt d => .rt d
      | .ro d => .ro d
      | .rm d e2 => .rm d e2
      | .ex c fs e2 => .ex c fs e2
      | .bad => .bad
    | _ => .bad
def sFor (al : List Nat) (p : Pat) (fi : Env → Res (List D)) (body : Env → Out) : Env → Out := sE al fi fun ds e => turns p body ds e
theorem ds_for {tg iter : Expr} {body : List Stmt} {p : Pat} {fi : Env → Res (List D)} {fb : Env → Out} (hp : PassesOwn (model X.prog X.w) X.A X.env X.xe) (hc : X.calm = true) (hi : DI X W (fun i => i ∈ al) tg iter fi) (hg : DG X tg p) (hb : ∀ G1, DSs X W H0 G1 body fb)
    (hs : ∀ x, foldedSetIterable iter X.env x = pure x := by intro _; rfl) : DS X W H0 G0 (.For tg iter body [] pos) (sFor al p fi fb) := by
  obtain ⟨g, g1, g2⟩ := hg
  -- the body's reading, whatever stays through it
  have hb' : PSs X body fun Z σ H => ∃ G1, tS X.K X.mg W H0 G1 fb Z σ H := ⟨fun pins s σ H D I ⟨G1, q⟩ => (hb G1).run pins s σ H D I q⟩
  refine (ps_for hp hc hi g1 hb' hs).lk fun Z σ H hq => (sE_step hq).imp fun H ⟨e, G, E, p1⟩ => ?_
  refine ⟨e, G, E, p1.imp fun ds H1 G1 x1 ⟨S1, q1⟩ J w => ?_⟩
  -- what holds between the turns
  refine ⟨fun i m σ2 H2 => m = ds.length - i ∧ i ≤ ds.length ∧ ∃ e2 G2, StOk X.K H0 G0 σ2 e2 H2 G2 ∧ Sub G1 G2 ∧ SPost X.K X.mg W H0 G0 (turns p fb (ds.drop i) e2) Z,
    ⟨ds.length, rfl, Nat.zero_le _, fz al e, G1, S1, Sub.refl _, q1⟩, ?_⟩
  rintro i m σ2 H2 ⟨rfl, hi, e2, G2, S2, g12, q2⟩
  by_cases hlt : i < ds.length
  · refine .inr ⟨w.go H2 i (g12.trans S2.ext.gh) hlt, fun σ3 H3 => ∃ e3 G3, StOk X.K H0 G0 σ3 e3 H3 G3 ∧ Sub G1 G3 ∧ SPost X.K X.mg W H0 G0 (turns p fb (ds.drop (i + 1)) e3) Z, ?_, ?_⟩
    · rintro σ3 H3 ⟨e3, G3, S3, g13, q3⟩
      exact ⟨ds.length - (i + 1), by omega, rfl, hlt, e3, G3, S3, g13, q3⟩
    · intro x H3 y
      obtain ⟨d, G3, hd, x3, rd⟩ := w.yld H2 G2 i x H3 (g12.trans S2.ext.gh) g12 S2.ext.gh hlt y
      have S3 : StOk X.K H0 G0 σ2 e2 H3 G3 := S2.step x3
      have e0 : ds.drop i = d :: ds.drop (i + 1) := by
        rw [List.drop_eq_getElem_cons hlt]
        have : ds[i] = d := by
          have := List.getElem?_eq_getElem hlt
          rw [hd] at this
          exact (Option.some.inj this).symm
        rw [this]
      rw [e0] at q2
      dsimp only [turns] at q2
      cases hb : p.bind d e2 with
      | exc c fs => rw [hb] at q2; exact q2.elim
      | bad => rw [hb] at q2; exact q2.elim
      | ok e3 =>
        rw [hb] at q2
        dsimp only at q2
        refine g2 _ st_setable x σ2 H3 G3 d e2 e3 _ S3 S3.ext.gh rd hb fun σ4 S4 => ⟨G3, e3, G3, S4.up (Sub.refl _), ?_⟩
        have g14 : Sub G1 G3 := g12.trans x3.gg
        cases hr : fb e3 with
        | nx e4 =>
          rw [hr] at q2
          exact fun σ5 H5 G5 S5 => ⟨e4, G5, S5.down S4.ext, g14.trans S5.ext.gg, q2⟩
        | ct e4 =>
          rw [hr] at q2
          exact fun σ5 H5 G5 S5 => ⟨e4, G5, S5.down S4.ext, g14.trans S5.ext.gg, q2⟩
        | bk e4 => rw [hr] at q2; exact fun σ5 H5 G5 S5 => q2 σ5 H5 G5 (S5.down S4.ext)
        | rt d => rw [hr] at q2; exact fun v H5 G5 x5 => q2 v H5 G5 (x5.down S4.ext)
        | ro d => rw [hr] at q2; exact fun a H5 G5 x5 => q2 a H5 G5 (x5.down S4.ext)
        | rm d e4 => rw [hr] at q2; exact fun v σ5 H5 G5 S5 => q2 v σ5 H5 G5 (S5.down S4.ext)
        | ex c fs e4 => rw [hr] at q2; exact fun cls o σ5 H5 G5 H6 S5 => q2 cls o σ5 H5 G5 H6 (S5.down S4.ext)
        | bad => rw [hr] at q2; exact q2.elim
  · have ei : i = ds.length := by omega
    subst ei
    refine .inl ⟨w.stop H2 (g12.trans S2.ext.gh), ?_⟩
    rw [List.drop_length] at q2
    exact q2 σ2 H2 G2 S2
end
end DL

namespace DL
open PySem PySem.Spec PyProof.Rows L2
open PySem.Builtin.Int (intBits)

/-! ### while -/
section
variable {X : Cx} {W : WX} {H0 : Bas} {G0 : Hp} {al : List Nat} {ex : Expr} {es : List Expr} {pos apos cpos p1 p2 : Pos}
/-! ### calls of defs -/
/-- what a def of so many parameters promises: what F says -/
def spD (K : PySem.W.Frag) (mg : Str → Option Value) (n : Nat) (F : List D → Res D) : Sp := fun vs H Q E => vs.length = n ∧ ∃ ds G, Sub G H ∧ RepL K G ds vs ∧ PostG K mg E H G (F ds) fun d H' G' => ∀ v, Rep K G' d v → Q v H'
structure CallOk (P : Program) (w : World) (K : PySem.W.Frag) (mg : Str → Option Value) (base : Heap) (k : Nat) (x : Str) (ps : List Str) (F : List D → Res D) : Prop where
  ok : ∃ f fd, mg x = some (.ref f) ∧ PySem.W.keepIn K (.ref f) = true ∧ Binds K fd ps [] ∧ FnOk P w K mg base (L2.CX P w) k f fd ps (spD K mg ps.length F)
def eCall (F : List D → Res D) (fs : Env → Res (List D)) : Env → Res D := fun e => (fs e).bind F
theorem de_call {A : Nat → Prop} {x : Str} {p : Pos} {k : Nat} {ps : List Str} {F : List D → Res D} {fs : Env → Res (List D)} (c : CallOk X.prog X.w X.K X.mg X.base k x ps F) (hr : Room k X.A) (hg : Gl X x) (tk : Takes X W) (ha : DA X W A (ex :: es) fs) (hl : LenIs fs ps.length) (hl2 : ∀ e ds, fs e = .ok ds → ps.length ≤ ds.length)
    (hdb : (x == ("__debug__" : Str)) = false := by decide) (he : starEach (ex :: es) X.env = (false, eval ex X.env) :: starEach es X.env := by rfl) (hpl : (backTo pos (starEach es X.env)).any (·.1) = false := by rfl) :
    DE X W A (.Call (.Name x p) (ex :: es) [] pos) (eCall F fs) := by
  obtain ⟨f, fd, hm, hk, hb, hF⟩ := c.ok
  refine (pe_callS hF hr hg hm hk hb (fun σ => passAt tk σ) ha hdb he hpl).imp fun σ H Q ⟨e, G, E, p⟩ => ⟨e, G, E, p.split.ifok fun ds H1 G1 hk x1 p1 vs rs => ?_⟩
  exact ⟨by rw [rs.length]; exact Nat.le_antisymm (hl e ds hk) (hl2 e ds hk), ds, G1, x1.gh, rs, p1⟩
/-- .. exactly so long -/
def LenEq (fs : Env → Res (List D)) (n : Nat) : Prop := ∀ e ds, fs e = .ok ds → ds.length = n
theorem leq_nil : LenEq aNil 0 := fun e ds h => by cases h; rfl
theorem leq_cons {f : Env → Res D} {fs : Env → Res (List D)} {n : Nat} (h : LenEq fs n) : LenEq (aCons f fs) (n + 1) := fun e ds q => by
  unfold aCons at q
  cases hf : f e with
  | ok d =>
    rw [hf] at q
    cases hs : fs e with
    | ok es => rw [hs] at q; cases q; exact congrArg (· + 1) (h e es hs)
    | exc c x => rw [hs] at q; cases q
    | bad => rw [hs] at q; cases q
  | exc c x => rw [hf] at q; cases q
  | bad => rw [hf] at q; cases q
theorem de_callE {A : Nat → Prop} {x : Str} {p : Pos} {k : Nat} {ps : List Str} {F : List D → Res D} {fs : Env → Res (List D)} (c : CallOk X.prog X.w X.K X.mg X.base k x ps F) (hr : Room k X.A) (hg : Gl X x) (tk : Takes X W) (ha : DA X W A (ex :: es) fs) (hl : LenEq fs ps.length)
    (hdb : (x == ("__debug__" : Str)) = false := by decide) (he : starEach (ex :: es) X.env = (false, eval ex X.env) :: starEach es X.env := by rfl) (hpl : (backTo pos (starEach es X.env)).any (·.1) = false := by rfl) :
    DE X W A (.Call (.Name x p) (ex :: es) [] pos) (eCall F fs) := de_call c hr hg tk ha (fun e ds h => Nat.le_of_eq (hl e ds h)) (fun e ds h => Nat.le_of_eq (hl e ds h).symm) hdb he hpl

/-! ### a def keeps its promise -/
def env0 (n m : Nat) (ds : List D) : Env := ds.map (fun d => some (d, false)) ++ List.replicate (m - n) none
def runDef (n m : Nat) (fb : Env → Out) : List D → Res D := fun ds => match fb (env0 n m ds) with
  | .rt d => .ok d
  | .ro d => .ok d
  | .rm d _ => .ok d
  | .nx _ => .ok .non
  | .ex c fs _ => .exc c fs
  | _ => .bad
abbrev wE (E : XK) : WX := fun cls o _ H => E cls o H
theorem fnD {P : Program} {w : World} {K : PySem.W.Frag} {mg : Str → Option Value} {base : Heap} {x qual : Str} {st : Stmt} {f : Addr} {fd : FuncData} {N ps : List Str} {k : Nat} {fb : Env → Out} (F : Fun K x qual st f fd) (S : FnScope N ps (defScope st))
    (hbody : ∀ (cdv : Value) (A : Around) (outer : List PySem.Env) (s : Shared) (H G : Hp) (E : XK), Room k (A.deeper (envOfC qual (defScope st) s.heap.objs.size f cdv)) →
      Takes (cxOf (L2.CX P w) P w K mg base N qual (defScope st) f cdv A outer s H E) (wE E) → PassesOwn (model P w) (A.deeper (envOfC qual (defScope st) s.heap.objs.size f cdv)) (envOfC qual (defScope st) s.heap.objs.size f cdv) (cxOf (L2.CX P w) P w K mg base N qual (defScope st) f cdv A outer s H E).xe →
      DSs (cxOf (L2.CX P w) P w K mg base N qual (defScope st) f cdv A outer s H E) (wE E) (Bas.of H) G (defBody st) fb) :
    FnOk P w K mg base (L2.CX P w) (k + 1) f fd ps (spD K mg ps.length (runDef ps.length N.length fb)) := by
  refine F.okX S (fun vs H Q E h => h.1) fun cdv A outer s H vs Q E hr h => ?_
  obtain ⟨hl, ds, G, sg, r, p⟩ := h
  refine ⟨_, (hbody cdv A outer s H G E hr (takes_of rfl rfl rfl rfl) (passes_of rfl)).lkR (fun D σ H q => q), ?_⟩
  show tS _ _ _ _ _ _ _ _ _
  refine ⟨env0 ps.length N.length ds, G, ?_, ?_⟩
  · have hps : ps.length ≤ N.length := by have := congrArg List.length S.pre; rw [List.length_take] at this; omega
    have hdl := r.length
    have get : ∀ (i : Nat) (d : D) (o : Bool), (env0 ps.length N.length ds)[i]? = some (some (d, o)) → o = false ∧ ds[i]? = some d := fun i d o h => by
      unfold env0 at h
      by_cases hi : i < ds.length
      · rw [List.getElem?_append_left (by simpa using hi), List.getElem?_map] at h
        cases q : ds[i]? with
        | none => rw [q] at h; cases h
        | some d' => rw [q] at h; cases h; exact ⟨rfl, rfl⟩
      · rw [List.getElem?_append_right (by simpa using hi), List.getElem?_replicate] at h
        split at h <;> cases h
    refine ⟨⟨Sub.refl _, Sub.refl _, sg, fun b z => .inl z⟩, ?_, fun i d h => ?_, fun i d h => ?_, fun i j d d' a h => ?_, fun i a d h => by cases h⟩
    · unfold L2.start env0
      simp only [List.length_append, List.length_map, List.length_replicate]
      omega
    · obtain ⟨_, h2⟩ := get i d false h
      obtain ⟨v, h3, h4⟩ := r.get h2
      refine ⟨v, ?_, h4⟩
      have hi : i < vs.length := (List.getElem?_eq_some_iff.mp h3).1
      unfold L2.start
      rw [List.getElem?_append_left (by simpa using hi), List.getElem?_map, h3]
      rfl
    · exact absurd (get i d true h).1 (by simp)
    · exact absurd (get i d true h).1 (by simp)
  · unfold runDef at p
    cases hr : fb (env0 ps.length N.length ds) with
    | rt d =>
      rw [hr] at p
      exact fun v H' G' x r => .here (p H' G' x v r)
    | ro d =>
      rw [hr] at p
      intro a H' G' x ha ga rc
      exact (own_lock x ha ga rc).imp fun H2 ⟨G2, y, r⟩ => p H2 G2 y _ r
    | nx e' =>
      rw [hr] at p
      exact fun σ' H' G' S' => p H' G' S'.ext .non rfl
    | ex c fs e' =>
      rw [hr] at p
      exact fun cls o σ' H' G' H2 S' s2 ix => p cls o H2 (S'.ext.hh.trans s2) ix
    | rm d e' =>
      rw [hr] at p
      exact fun v σ' H' G' S' r => .here (p H' G' S'.ext v r)
    | bk e' => rw [hr] at p; exact p.elim
    | ct e' => rw [hr] at p; exact p.elim
    | bad => rw [hr] at p; exact p.elim
/-- where nothing is promised -/
theorem fn_bad {P : Program} {w : World} {K : PySem.W.Frag} {mg : Str → Option Value} {base : Heap} {f : Addr} {fd : FuncData} {ps : List Str} {k : Nat} {F : List D → Res D} (h : ∀ ds, F ds = .bad) : FnOk P w K mg base (L2.CX P w) k f fd ps (spD K mg ps.length F) :=
  ⟨fun vs H Q E h => h.1, fun A outer s H args us vs Q E _ _ _ _ ⟨_, ds, G, _, _, p⟩ => by rw [h ds] at p; exact p.elim⟩
end
end DL

namespace DL
open PySem PySem.Spec PyProof.Rows L2
open PySem.Builtin.Int (intBits)

/-! ### comprehensions -/
def wipeE (e : Env) : List Nat → Env
  | [] => e
  | v :: vs => (wipeE e vs).set v none
theorem wipeE_length (e : Env) : ∀ vs : List Nat, (wipeE e vs).length = e.length
  | [] => rfl
  | v :: vs => by unfold wipeE; rw [List.length_set, wipeE_length e vs]
theorem wipe_other {σ : L2.St} {i : Nat} : ∀ {vs : List Nat}, i ∉ vs → (wipe σ vs)[i]? = σ[i]?
  | [], _ => rfl
  | v :: vs, h => by
    unfold wipe
    rw [List.getElem?_set_ne (fun z => h (by simp [z])), wipe_other (fun z => h (by simp [z]))]
theorem wipeE_get {e : Env} {i : Nat} {x : D × Bool} : ∀ {vs : List Nat}, (wipeE e vs)[i]? = some (some x) → e[i]? = some (some x) ∧ i ∉ vs
  | [], h => ⟨h, by simp⟩
  | v :: vs, h => by
    unfold wipeE at h
    rcases set_get h with ⟨_, z⟩ | ⟨hi, z⟩
    · cases z
    · obtain ⟨a, b⟩ := wipeE_get z
      exact ⟨a, by simp [hi, b]⟩
theorem wipe_set {σ : L2.St} {i : Nat} {x : Option V} : ∀ {vs : List Nat}, i ∈ vs → wipe (σ.set i x) vs = wipe σ vs
  | [], h => by simp at h
  | v :: vs, h => by
    unfold wipe
    by_cases hv : i ∈ vs
    · rw [wipe_set hv]
    · have e : i = v := by simpa [hv] using h
      subst e
      have key : ∀ (ws : List Nat) (τ : L2.St), i ∉ ws → wipe (τ.set i x) ws = (wipe τ ws).set i x := by
        intro ws
        induction ws with
        | nil => intro τ _; rfl
        | cons w ws ih =>
          intro τ hw
          unfold wipe
          rw [ih τ (fun z => hw (by simp [z])), List.set_comm _ _ (fun z => hw (by simp [z]))]
      rw [key vs σ hv, List.set_set]
theorem wipe_idem {σ : L2.St} : ∀ (vs : List Nat), wipe (wipe σ vs) vs = wipe σ vs := by
  have swap : ∀ (ws : List Nat) (τ : L2.St) (i : Nat), wipe (τ.set i none) ws = (wipe τ ws).set i none := by
    intro ws
    induction ws with
    | nil => intro τ i; rfl
    | cons w ws ih =>
      intro τ i
      unfold wipe
      rw [ih]
      by_cases h : i = w
      · subst h; rfl
      · rw [List.set_comm _ _ h]
  intro vs
  induction vs with
  | nil => rfl
  | cons v vs ih =>
    show (wipe ((wipe σ vs).set v none) vs).set v none = (wipe σ vs).set v none
    rw [swap, ih, List.set_set]
theorem EnvG.wipe {K : PySem.W.Frag} {A : Nat → Prop} {σ : L2.St} {e : Env} {H G : Hp} (h : EnvG K A σ e H G) (vs : List Nat) : EnvG K A (L2.wipe σ vs) (wipeE e vs) H G :=
  ⟨h.sub, by rw [wipe_length, wipeE_length]; exact h.len, fun i d o hi => by
    obtain ⟨a, b⟩ := wipeE_get hi
    rw [wipe_other b]
    exact h.val i d o a⟩
theorem EnvG.set {K : PySem.W.Frag} {A : Nat → Prop} {σ : L2.St} {e : Env} {H G : Hp} (h : EnvG K A σ e H G) (i : Nat) {d : D} {v : V} (r : Rep K G d v) : EnvG K A (σ.set i (some v)) (e.set i (some (d, false))) H G :=
  ⟨h.sub, by rw [List.length_set, List.length_set]; exact h.len, fun j d' o hj => by
    rcases set_get hj with ⟨rfl, z⟩ | ⟨hij, z⟩
    · cases z
      have hl : j < e.length := by
        by_cases hl : j < e.length
        · exact hl
        · rw [List.getElem?_eq_none (by simpa using hl)] at hj; cases hj
      exact ⟨v, List.getElem?_set_self (by rw [h.len]; exact hl), fun _ => r, r.c h.sub⟩
    · rw [List.getElem?_set_ne (Ne.symm hij)]
      exact h.val j d' o z⟩
/-- the items: what is walked, by the pattern, where the test holds -/
def compL (e : Env) (p : Pat) (ft : Env → Res Bool) (fe : Env → Res D) : List D → Res (List D)
  | [] => .ok []
  | d :: ds => match p.bind d e with
    | .ok e1 => match ft e1 with
      | .ok true => match fe e1 with
        | .ok y => (compL e p ft fe ds).bind fun ys => .ok (y :: ys)
        | _ => .bad
      | .ok false => compL e p ft fe ds
      | _ => .bad
    | _ => .bad
def bYes : Env → Res Bool := fun _ => .ok true
def eComp (own : List Nat) (p : Pat) (fi : Env → Res (List D)) (ft : Env → Res Bool) (fe : Env → Res D) : Env → Res D := fun e => (fi e).bind fun ds => if ds.length ≤ sizeLine then (match compL (wipeE e own) p ft fe ds with
  | .ok ys => .ok (.lst ys)
  | _ => .bad) else .bad
abbrev WF : WX := fun _ _ _ _ => False
abbrev DTs (X : Cx) (A : Nat → Prop) (ifs : List Expr) (f : Env → Res Bool) : Prop := PTs X ifs (tT X.K X.mg WF A f)
theorem dts_nil {X : Cx} {A : Nat → Prop} : DTs X A [] bYes := ⟨fun pins s σ H Q I ⟨e, G, E, p⟩ => pts_nil.run pins s σ H Q I (p.here E.sub)⟩
/-- the reading of a comprehension, from the data's -/
theorem comp_imp {K : PySem.W.Frag} {mg : Str → Option Value} {W : WX} {A : Nat → Prop} {own : List Nat} {p : Pat} {fi : Env → Res (List D)} {ft : Env → Res Bool} {fe : Env → Res D} {g : TG} (hsl : ∀ i ∈ p.slots, i ∈ own)
    (hg : ∀ (R : L2.St → Env → Hp → Hp → Prop), Setable K p.slots R → ∀ (v : V) (σ : L2.St) (H G : Hp) (d : D) (e e' : Env) (Q : L2.St → Hp → Prop), R σ e H G → Sub G H → Rep K G d v → p.bind d e = .ok e' → (∀ σ', R σ' e' H G → Q σ' H) → g v σ H Q)
    (σ : L2.St) (H : Hp) (Q : VK) (q : tF K mg W A (eComp own p fi ft fe) σ H Q) : tLc (tIR K mg W A fi) g (tT K mg WF A ft) (tD K mg WF A fe) own σ H Q := by
  obtain ⟨e, G, E, pp⟩ := q
  refine ⟨e, G, E, pp.split.imp fun ds H1 G1 x1 p1 J w D0 hD => ?_⟩
  have E1 := E.ext x1
  by_cases hz : ds.length ≤ sizeLine
  · rw [if_pos hz] at p1
    cases hc : compL (wipeE e own) p ft fe ds with
    | exc c fs => rw [hc] at p1; exact p1.elim
    | bad => rw [hc] at p1; exact p1.elim
    | ok total =>
      rw [hc] at p1
      have gD : G1 D0 = none := x1.gh.free hD
      refine ⟨fun i m H2 => m = ds.length - i ∧ i ≤ ds.length ∧ ∃ (G2 : Hp) (acc : List D) (accV : List V) (rest : List D), Ext H1 G1 H2 G2 ∧ G2 D0 = none ∧ H2 D0 = some (.lst accV) ∧ RepL K G2 acc accV ∧ acc.length ≤ i ∧ compL (wipeE e own) p ft fe (ds.drop i) = .ok rest ∧ acc ++ rest = total,
        ⟨ds.length, rfl, Nat.zero_le _, G1, [], [], total, ⟨Sub.upd hD, Sub.refl _, x1.gh.trans (Sub.upd hD), fun b z => .inl z⟩, gD, upd_same, rfl, Nat.zero_le _, hc, rfl⟩, ?_⟩
      rintro i m H2 ⟨rfl, hi, G2, acc, accV, rest, x2, g2, h2, r2, ha, hr, ht⟩
      by_cases hlt : i < ds.length
      · refine .inr ⟨w.go H2 i x2.hh hlt, fun H3 => ∃ (G3 : Hp) (acc : List D) (accV : List V) (rest : List D), Ext H1 G1 H3 G3 ∧ G3 D0 = none ∧ H3 D0 = some (.lst accV) ∧ RepL K G3 acc accV ∧ acc.length ≤ i + 1 ∧ compL (wipeE e own) p ft fe (ds.drop (i + 1)) = .ok rest ∧ acc ++ rest = total, fun H3 h => ⟨ds.length - (i + 1), by omega, rfl, hlt, h⟩, fun x H3 y => ?_⟩
        obtain ⟨d, G3, hd, x3, rd⟩ := w.yld H2 G2 i x H3 x2.hh x2.gg x2.gh hlt y
        have x13 := x2.trans x3
        have n3 : ∀ {H' G' : Hp}, Ext H2 G2 H' G' → G' D0 = none := fun {H' G'} x => by
          cases hga : G' D0 with
          | none => rfl
          | some u =>
            rcases x.new D0 (by rw [hga]; simp) with z | z
            · exact absurd g2 z
            · rcases z with z | ⟨_, z⟩ <;> (rw [h2] at z; cases z)
        have e0 : ds.drop i = d :: ds.drop (i + 1) := by
          rw [List.drop_eq_getElem_cons hlt]
          have : ds[i] = d := by
            have := List.getElem?_eq_getElem hlt
            rw [hd] at this
            exact (Option.some.inj this).symm
          rw [this]
        rw [e0] at hr
        dsimp only [compL] at hr
        cases hb : p.bind d (wipeE e own) with
        | exc c fs => rw [hb] at hr; cases hr
        | bad => rw [hb] at hr; cases hr
        | ok e1 =>
          rw [hb] at hr
          dsimp only at hr
          refine hg (fun σ' e' H' G' => EnvG K A σ' e' H' G' ∧ L2.wipe σ' own = L2.wipe σ own) (fun σ' e' H' G' j d' v hj ⟨R1, R2⟩ r => ⟨R1.set j r, by rw [wipe_set (hsl j hj)]; exact R2⟩) x (L2.wipe σ own) H3 G3 d (wipeE e own) e1 _ ⟨(E1.ext x13).wipe own, wipe_idem own⟩ x3.gh rd hb fun σ' ⟨R1, R2⟩ => ⟨R2, e1, G3, R1, ?_⟩
          cases hft : ft e1 with
          | exc c fs => rw [hft] at hr; cases hr
          | bad => rw [hft] at hr; cases hr
          | ok b =>
            rw [hft] at hr
            intro H4 G4 x4
            cases b with
            | false =>
              dsimp only at hr ⊢
              rw [if_neg Bool.false_ne_true]
              exact ⟨G4, acc, accV, rest, x13.trans x4, n3 (x3.trans x4), x4.hh _ _ (x3.hh _ _ h2), (r2.mono x3.gg).mono x4.gg, Nat.le_succ_of_le ha, hr, ht⟩
            | true =>
              dsimp only at hr ⊢
              rw [if_pos rfl]
              refine ⟨e1, G4, R1.ext x4, ?_⟩
              cases hfe : fe e1 with
              | exc c fs => rw [hfe] at hr; cases hr
              | bad => rw [hfe] at hr; cases hr
              | ok y =>
                rw [hfe] at hr
                dsimp only at hr
                intro H5 G5 x5 yv ry
                cases hcr : compL (wipeE e own) p ft fe (ds.drop (i + 1)) with
                | exc c fs => rw [hcr] at hr; cases hr
                | bad => rw [hcr] at hr; cases hr
                | ok rest' =>
                  rw [hcr] at hr
                  cases hr
                  have x25 := (x3.trans x4).trans x5
                  have x15 := x2.trans x25
                  have n5 := n3 x25
                  have h5 := x25.hh _ _ h2
                  refine ⟨accV, h5, ?_, G5, acc ++ [y], accV ++ [yv], rest', ⟨fun b o z => ?_, x15.gg, fun b o z => ?_, x15.new⟩, n5, upd_same, (r2.mono x25.gg).append (.cons ry rfl), ?_, rfl, ?_⟩
                  · rw [r2.length]; omega
                  · have nb : b ≠ D0 := fun q => by rw [q, hD] at z; cases z
                    rw [upd_ne nb]; exact x15.hh _ _ z
                  · have nb : b ≠ D0 := fun q => by rw [q, n5] at z; cases z
                    rw [upd_ne nb]; exact x15.gh _ _ z
                  · rw [List.length_append, List.length_singleton]; omega
                  · rw [← ht, List.append_assoc]; rfl
      · have ei : i = ds.length := by omega
        subst ei
        refine .inl ⟨w.stop H2 x2.hh, ?_⟩
        rw [List.drop_length] at hr
        cases hr
        rw [List.append_nil] at ht
        subst ht
        exact p1 H2 G2 x2 D0 (x1.hh.free hD) g2 ⟨accV, h2, r2⟩
  · rw [if_neg hz] at p1; exact p1.elim
section
variable {X : Cx} {W : WX} {H0 : Bas} {G0 : Hp} {A : Nat → Prop} {al : List Nat} {pos spos : Pos}
theorem df_comp {elt tg iter : Expr} {ifs : List Expr} {scope : Scope} {own : List (Str × Nat)} {p : Pat} {fi : Env → Res (List D)} {ft : Env → Res Bool} {fe : Env → Res D} (hc : X.calm = true) (hN : X.N.Nodup) (hi : DIR X W A tg iter fi) (ok : BlkOk X.N X.env.scope scope own)
    (hg : ∀ (s : Shared) (H : Hp) (C : Addr) (cl : List (Str × Addr)) (fp : List Addr), DG (X.blk s H scope (compEnvC scope cl C X.env) fp) tg p) (ht : ∀ (s : Shared) (H : Hp) (C : Addr) (cl : List (Str × Addr)) (fp : List Addr), DTs (X.blk s H scope (compEnvC scope cl C X.env) fp) A ifs ft)
    (he : ∀ (s : Shared) (H : Hp) (C : Addr) (cl : List (Str × Addr)) (fp : List Addr), DE (X.blk s H scope (compEnvC scope cl C X.env) fp) WF A elt fe) (hsl : ∀ i ∈ p.slots, i ∈ own.map (·.2)) (hs : ∀ x, foldedSetIterable iter X.env x = pure x := by intro _; rfl) :
    DF X W A (.ListComp elt [⟨tg, iter, ifs, 0⟩] scope pos) (eComp (own.map (·.2)) p fi ft fe) := by
  let g0 : TG := fun v σ H Q => ∃ (R : L2.St → Env → Hp → Hp → Prop) (G : Hp) (d : D) (e e' : Env), Setable X.K p.slots R ∧ R σ e H G ∧ Sub G H ∧ Rep X.K G d v ∧ p.bind d e = .ok e' ∧ ∀ σ', R σ' e' H G → Q σ' H
  have hg' : ∀ (s : Shared) (H : Hp) (C : Addr) (cl : List (Str × Addr)) (fp : List Addr), PG (X.blk s H scope (compEnvC scope cl C X.env) fp) tg g0 := fun s H C cl fp => by
    obtain ⟨g, g1, g2⟩ := hg s H C cl fp
    exact ⟨fun pins s σ H v u Q I r ⟨R, G, d, e, e', a1, a2, a3, a4, a5, a6⟩ => g1.run pins s σ H v u Q I r (g2 R a1 v σ H G d e e' Q a2 a3 a4 a5 a6)⟩
  exact (pe_lc hc hN hi ok hg' ht he hs).imp (comp_imp (mg := X.mg) hsl fun R hR v σ H G d e e' Q a1 a2 a3 a4 a5 => ⟨R, G, d, e, e', hR, a1, a2, a3, a4, a5⟩)
end
end DL

namespace DL
open PySem PySem.Spec PyProof.Rows L2
open PySem.Builtin.Int (intBits)

/-! ### a name that never holds a list to be changed -/
def eVarS (i : Nat) : Env → Res D := fun e => match e[i]? with
  | some (some (d, false)) => .ok d
  | _ => .bad
section
variable {X : Cx} {W : WX} {A : Nat → Prop} {a b : Expr} {rest : List Expr} {pos p p1 p2 : Pos} {x T : Str} {H0 : Bas} {G0 : Hp}
theorem de_vs {i : Nat} {x : Str} {pos : Pos} (hN : X.N[i]? = some x) (hv : Vis X.env.scope x) (hd : (x == ("__debug__" : Str)) = false := by decide) (hcd : (x == ("__classdict__" : Str)) = false := by decide) : DE X W A (.Name x pos) (eVarS i) :=
  (pe_var hN hv hd hcd).imp fun σ H Q ⟨e, G, E, p⟩ => by
    unfold eVarS at p
    cases h : e[i]? with
    | none => rw [h] at p; exact p.elim
    | some s => cases s with
      | none => rw [h] at p; exact p.elim
      | some z =>
        obtain ⟨d, o⟩ := z
        rw [h] at p
        cases o with
        | true => exact p.elim
        | false =>
          obtain ⟨v, h1, h2, h3⟩ := E.val i d false h
          exact ⟨v, h1, p.here E.sub v (h2 (.inr rfl))⟩

/-! ### isinstance -/
/-- the name of the data's own type -/
def D.tyN : D → Option String
  | .non => some "NoneType"
  | .bl _ => some "bool"
  | .int _ => some "int"
  | .str _ => some "str"
  | .tup _ => some "tuple"
  | .con _ => some "tuple"
  | .lst _ => some "list"
  | _ => none
def isInt : D → Res D
  | .int _ => .ok (.bl true)
  | .bl _ => .ok (.bl true)
  | d => if d.tyN = none then .bad else .ok (.bl false)
def isBool : D → Res D
  | .bl _ => .ok (.bl true)
  | d => if d.tyN = none then .bad else .ok (.bl false)
def isTup : D → Res D
  | .tup _ => .ok (.bl true)
  | .con _ => .ok (.bl true)
  | d => if d.tyN = none then .bad else .ok (.bl false)
def isStr : D → Res D
  | .str _ => .ok (.bl true)
  | d => if d.tyN = none then .bad else .ok (.bl false)
def isList : D → Res D
  | .lst _ => .ok (.bl true)
  | d => if d.tyN = none then .bad else .ok (.bl false)
/-- g says which data is of the type T -/
def IsOf (T : String) (g : D → Res D) : Prop := ∀ d, (∀ t, d.tyN = some t → ∃ b, kitB t T = some b ∧ g d = .ok (.bl b)) ∧ (d.tyN = none → g d = .bad)
theorem is_int : IsOf "int" isInt := fun d => ⟨fun t h => by cases d <;> cases h <;> exact ⟨_, by decide +kernel, rfl⟩, fun h => by cases d <;> first | rfl | cases h⟩
theorem is_bool : IsOf "bool" isBool := fun d => ⟨fun t h => by cases d <;> cases h <;> exact ⟨_, by decide +kernel, rfl⟩, fun h => by cases d <;> first | rfl | cases h⟩
theorem is_tup : IsOf "tuple" isTup := fun d => ⟨fun t h => by cases d <;> cases h <;> exact ⟨_, by decide +kernel, rfl⟩, fun h => by cases d <;> first | rfl | cases h⟩
theorem is_str : IsOf "str" isStr := fun d => ⟨fun t h => by cases d <;> cases h <;> exact ⟨_, by decide +kernel, rfl⟩, fun h => by cases d <;> first | rfl | cases h⟩
theorem tyX {K : PySem.W.Frag} {H G : Hp} {d : D} {v : V} {t : String} (g : Sub G H) (r : RepC K H G d v) (h : d.tyN = some t) : TyX K H v (.type t) := by
  cases d with
  | non => cases h; cases (show v = .non from r); exact .base .non
  | bl b => cases h; cases (show v = .bl b from r); exact .base (.bl b)
  | int i => cases h; cases (show v = .int i from r); exact .base (.int i)
  | str x => cases h; cases (show v = .str x from r); exact .base (.str x)
  | tup ds =>
    cases h
    obtain ⟨a, vs, e, s, _⟩ := (show Rep K G (.tup ds) v from r)
    subst e
    rcases g.pt (K := K) s with (q | ⟨o, q⟩) | ⟨o, its, n, q1, q2, _⟩
    · exact .base (.tup q)
    · exact .fTuple q
    · exact .kTuple q1 q2
  | con ds =>
    cases h
    obtain ⟨a, vs, e, s, _⟩ := (show Rep K G (.con ds) v from r)
    subst e
    rcases g.sqt (K := K) s with (q | ⟨o, q⟩) | ⟨o, its, n, q1, q2, _⟩
    · exact .base (.tup q)
    · exact .fTuple q
    · exact .kTuple q1 q2
  | lst ds =>
    cases h
    obtain ⟨a, vs, e, s, _⟩ := r
    subst e
    rcases s with (q | ⟨o, q⟩) | ⟨o, its, n, q1, q2, _⟩
    · exact .base (.lst q)
    · exact .base (.frz q)
    · exact .kList q1 q2
  | _ => cases h
theorem de_isi {x T : Str} {n : String} {g : D → Res D} {f : Env → Res D} (ho : IsOf n g) (hg : Gl X x) (hm : X.mg x = none) (hv : bootBuiltins x = some (.builtin "isinstance")) (ha : DR X W A a f) (hgT : Gl X T) (hmT : X.mg T = none) (hvT : bootBuiltins T = some (.type n))
    (hnx : x ≠ "__name__" := by decide) (hnT : T ≠ "__name__" := by decide) (hdT : (T == ("__debug__" : Str)) = false := by decide) (hdb : (x == ("__debug__" : Str)) = false := by decide)
    (he : starEach (a :: [.Name T p2]) X.env = (false, eval a X.env) :: starEach [.Name T p2] X.env := by rfl) (he2 : starEach (.Name T p2 :: []) X.env = (false, eval (.Name T p2) X.env) :: starEach [] X.env := by rfl) (hpl : (backTo pos (starEach [.Name T p2] X.env)).any (·.1) = false := by rfl) :
    DE X W A (.Call (.Name x p) [a, .Name T p2] [] pos) (e1 g f) := by
  refine (pe_callB call_isi hg hm hv (pa_cons ha (pa_cons (pe_bltn hgT hmT hvT (v := .ty n) rfl hnT hdT) pa_nil he2) he) hnx hdb he hpl).imp fun σ H Q ⟨e, G, E, p⟩ => ?_
  refine ⟨e, G, E, p.split.imp fun d H1 G1 x1 p1 v rv => ?_⟩
  cases ht : d.tyN with
  | none => rw [(ho d).2 ht] at p1; exact p1.elim
  | some t =>
    obtain ⟨b, k1, k2⟩ := (ho d).1 t ht
    rw [k2] at p1
    exact ⟨v, .ty n, .type t, .type n, b, rfl, .ty n, tyX x1.gh rv ht, kit_ty k1, p1.val x1.gh rfl⟩

/-! ### raise, try -/
structure ExcOk (K : PySem.W.Frag) (mg : Str → Option Value) (c : String) : Prop where
  ok : ∃ C B newId initId bmB, PySem.ExcBaseFacts B newId initId bmB ∧ PySem.W.excIn K C bmB newId = true ∧ mg (Str.ofString c) = some (.ref C) ∧ PySem.W.keepIn K (.ref C) = true ∧
    PySem.W.subIn K (.ref C) (.type "BaseException") = some true ∧ PySem.W.typeIn K (.ref C) = some (.type "type")
def sRaise (c : String) : Env → Out := fun e => .ex c [] e
/-- what "except X" does at each class -/
def Clause (K : PySem.W.Frag) (mg : Str → Option Value) (c : Value) (h : String → Option Bool) : Prop := ∀ k b cls, h k = some b → mg (Str.ofString k) = some cls → PySem.W.exmOne K cls c = some b
/-- nothing is raised out of here -/
def noEx (r : Out) : Out := match r with
  | .ex _ _ _ => .bad
  | r => r
def sTry (h : String → Option Bool) (fb fs : Env → Out) : Env → Out := fun e => match fb e with
  | .ex c fs' e' => match h c with
    | some true => noEx (fs e')
    | some false => .ex c fs' e'
    | none => .bad
  | r => r
end
end DL

namespace DL
open PySem PySem.Spec PyProof.Rows L2
open PySem.Builtin.Int (intBits)

theorem _root_.L2.Room.hu {k : Nat} {A : Around} (h : Room k A) : A.units + 64 < cLine := by have := h.un; omega
theorem CallOk.up {P : Program} {w : World} {K : PySem.W.Frag} {mg : Str → Option Value} {base : Heap} {j k : Nat} {x : Str} {ps : List Str} {F : List D → Res D} (h : CallOk P w K mg base j x ps F) (hjk : j ≤ k) : CallOk P w K mg base k x ps F := by
  obtain ⟨f, fd, a, b, c, d⟩ := h.ok
  exact ⟨f, fd, a, b, c, d.mono hjk⟩
theorem endW {l : PySem.W.OpenLaw} {k : Nat} {q : Program} {loose : List Str} {XP : (Str → Option Value) → Heap → Prop} {YP : World → Heap → Prop} {d : DefRec} {K : Params → PySem.W.Frag} {x : Str} {F : List D → Res D}
    (hn : l.most = some 63) (hdf : d.params.defaults = []) (hk : k < 60) (hY : ∀ (w : World) (h : Heap), YP w h → (K w.params).In h)
    (FF : ∀ (w : World) (mg : Str → Option Value) (fa : Addr) (h : Heap), (K w.params).In h → h.Ns mainGlobals mg → mg d.name = some (.ref fa) →
      ∃ fd : FuncData, (∀ (s : Shared) (u : Value), BindsTo s fd ⟨[u], []⟩ [(x, u)]) ∧ ∀ base : Heap, (K w.params).In base → base.Ns mainGlobals mg → FnOk l.prog w (K w.params) mg base (L2.CX l.prog w) k fa fd [x] (spD (K w.params) mg 1 F))
    (law : ∀ ns : List Int, ns.length ≤ 63 → (∀ z ∈ ns, intBits z ≤ 1048576) → F [.lst (ns.map D.int)] = .ok (.bl true)) :
    PySem.W.WalkO q loose XP YP l.row.toRowW d [] (fun f vs => PySem.call f vs) := by
  let sp : World → Sp := fun w => fun vs H Q E => vs.length = 1 ∧ ∃ (a : Addr) (ns : List Int), vs = [.ref a] ∧ ns.length ≤ 63 ∧ (∀ z ∈ ns, intBits z ≤ 1048576) ∧ SqL (K w.params) H a (ns.map V.int) ∧ ∀ H', Q (.bl true) H'
  refine L2.walk_ofB (l := l) (n := 63) (k := k) (x := x) (K := K) (CX := fun w => L2.CX l.prog w) (sp := sp) hn (by rw [PySem.sizeLine_eq]; decide) hdf (Room.mono (k := 60) ⟨rfl, by decide, by decide⟩ (by omega)) hY (fun w mg fa h a b c => ?_) (fun w H a ns hl hb _ hS => ⟨rfl, a, ns, rfl, hl, hb, hS, fun _ => rfl⟩) ?_
  · obtain ⟨fd, b1, b2⟩ := FF w mg fa h a b c
    refine ⟨fd, b1, fun base k1 k2 => ?_⟩
    have f := b2 base k1 k2
    refine ⟨fun vs H Q E h => h.1, fun A outer s H args us vs Q E r e bt vv hsp => f.run A outer s H args us vs Q E r e bt vv ?_⟩
    obtain ⟨_, a, ns, rfl, hl, hb, hS, hq⟩ := hsp
    refine ⟨rfl, [.lst (ns.map D.int)], H, Sub.refl H, ⟨_, _, rfl, ⟨a, _, rfl, hS, RepL.of_ints ns⟩, rfl⟩, ?_⟩
    rw [law ns hl hb]
    exact fun H' G' _ v hv => by cases (show v = .bl true from hv); exact hq H'
  · rintro w H s e s' ⟨_, _, _, _, _, _, _, _, _, _, _, _, z⟩
    exact z
end DL

namespace DL
open PySem PySem.Spec PyProof.Rows L2
open PySem.Builtin.Int (intBits)
/-! ### which classes an "except" names -/
theorem Clause.nil {K : PySem.W.Frag} {mg : Str → Option Value} {c : Value} : Clause K mg c (fun _ => none) := fun k b cls h _ => by cases h
theorem Clause.cons {K : PySem.W.Frag} {mg : Str → Option Value} {c : Value} {n : String} {C : Addr} {b : Bool} {f : String → Option Bool} (hm : mg (Str.ofString n) = some (.ref C)) (he : PySem.W.exmOne K (.ref C) c = some b) (t : Clause K mg c f) : Clause K mg c (fun s => if s = n then some b else f s) := fun k b' cls h hc => by
  dsimp only at h
  by_cases hk : k = n
  · subst hk
    rw [if_pos rfl] at h
    cases h
    rw [hm] at hc
    cases hc
    exact he
  · rw [if_neg hk] at h
    exact t k b' cls h hc
/-! ### a module's constant -/
structure ConOk (K : PySem.W.Frag) (mg : Str → Option Value) (x : String) (d : D) : Prop where
  ok : ∃ u v, mg (Str.ofString x) = some u ∧ RelV v u ∧ ∀ G, Rep K G d v
theorem de_con {X : Cx} {W : WX} {A : Nat → Prop} {x : String} {d : D} {pos : Pos} (h : ConOk X.K X.mg x d) (hg : Gl X (Str.ofString x)) (hd : (Str.ofString x == ("__debug__" : Str)) = false := by decide) : DE X W A (.Name (Str.ofString x) pos) (eC d) := by
  obtain ⟨u, v, h1, h2, h3⟩ := h.ok
  exact de_glob hg h1 h2 h3 hd
/-- a value of the written part is the data d -/
structure Con (K : PySem.W.Frag) (d : D) (u : Value) : Prop where
  ok : ∃ v, RelV v u ∧ ∀ G, Rep K G d v
theorem Con.int {K : PySem.W.Frag} {i : Int} {t : Tok} : Con K (.int i) (.int i t) := ⟨.int i, ⟨t, rfl⟩, fun _ => rfl⟩
theorem Con.str {K : PySem.W.Frag} {x : Str} {t : Tok} : Con K (.str x) (.str x t) := ⟨.str x, ⟨t, rfl⟩, fun _ => rfl⟩
def Cons (K : PySem.W.Frag) : List D → List Value → Prop
  | [], us => us = []
  | d :: ds, us => ∃ u r, us = u :: r ∧ Con K d u ∧ Cons K ds r
theorem Cons.rep {K : PySem.W.Frag} : ∀ {ds : List D} {us : List Value}, Cons K ds us → ∃ vs, Vals vs us ∧ ∀ G, RepL K G ds vs
  | [], _, rfl => ⟨[], .nil, fun _ => rfl⟩
  | d :: ds, _, ⟨u, r, rfl, h, t⟩ => by
    obtain ⟨v, h1, h2⟩ := h.ok
    obtain ⟨vs, h3, h4⟩ := Cons.rep t
    exact ⟨v :: vs, .cons h1 h3, fun G => ⟨v, vs, rfl, h2 G, h4 G⟩⟩
theorem Con.tup {K : PySem.W.Frag} {a : Addr} {dd : Option Addr} {us : List Value} {n : Nat} {sl : Array (Option Value)} {ds : List D} (h : K.lookup a = some ⟨.type "tuple", dd, .seq us.toArray n, sl⟩) (c : Cons K ds us) (hn : us.length ≤ 1000) : Con K (.con ds) (.ref a) := by
  obtain ⟨vs, h3, h4⟩ := c.rep
  refine ⟨.ref a, rfl, fun G => ⟨a, vs, rfl, .inr ⟨_, _, n, h, rfl, rfl, ?_, by simpa using h3⟩, h4 G⟩⟩
  rw [PySem.sizeLine_eq]
  simp
  omega
theorem Con.at {K : PySem.W.Frag} {mg : Str → Option Value} {x : String} {d : D} {u : Value} (h : Con K d u) (hm : mg (Str.ofString x) = some u) : ConOk K mg x d := by
  obtain ⟨v, h1, h2⟩ := h.ok
  exact ⟨u, v, hm, h1, h2⟩
end DL

namespace DL
open PySem PySem.Spec PyProof.Rows L2
open PySem.Builtin.Int (intBits)
/-! ### range of three -/
def prog3 (i c : Int) (n : Nat) : List D := (List.range n).map fun k => D.int (i + (k : Nat) * c)
open Classical in
noncomputable def rg3 (i j c : Int) : Res (List D) := if h : ∃ n, RgC i j c n then .ok (prog3 i c (Classical.choose h)) else .bad
noncomputable def r3D : D → D → D → Res (List D) := fun x y z => match x, y, z with
  | .int i, .int j, .int c => rg3 i j c
  | _, _, _ => .bad
noncomputable def iRange3 (f g h : DL.Env → Res D) : DL.Env → Res (List D) := fun e => (f e).bind fun x => (g e).bind fun y => (h e).bind fun z => r3D x y z
section
variable {X : Cx} {W : WX} {A : Nat → Prop} {a b c : Expr} {pos : Pos}
/-- x, y = a, b with no tuple made -/
def sPar (al : List Nat) (i j : Nat) (fs : DL.Env → Res (List D)) : DL.Env → Out := sE al fs fun ds e => match ds with
  | [x, y] => .nx ((e.set i (some (x, false))).set j (some (y, false)))
  | _ => .bad
/-! ### zip of two -/
end
end DL

namespace DL
open PySem PySem.Spec PyProof.Rows L2
open PySem.Builtin.Int (intBits)
/-! ### str of truth values and numbers -/
def dStr : D → Res D
  | .bl b => .ok (.str (if b = true then "True" else "False"))
  | _ => .bad
/-! ### except X as e -/
/-- the error's name is gone behind the suite; nothing is raised out of it -/
def clrN (i : Nat) : Out → Out
  | .nx e => .nx (e.set i none)
  | .bk e => .bk (e.set i none)
  | .ct e => .ct (e.set i none)
  | .rt d => .rt d
  | .ro d => .ro d
  | .rm d e => .rm d (e.set i none)
  | _ => .bad
open Classical in
/-- what is so at every address -/
noncomputable def unif (g : Addr → Out) : Out := if h : ∃ r, ∀ a, g a = r then Classical.choose h else .bad
theorem unif_of {g : Addr → Out} {r : Out} (h : ∀ a, g a = r) : unif g = r := by
  have hx : ∃ r, ∀ a, g a = r := ⟨r, h⟩
  unfold unif
  rw [dif_pos hx]
  exact (Classical.choose_spec hx 0).symm.trans (h 0)
noncomputable def sTryAs (i : Nat) (h : String → Option Bool) (fb : DL.Env → Out) (fs : Addr → String → DL.Env → Out) : DL.Env → Out := fun e => match fb e with
  | .ex c fs' e' => match h c with
    | some true => if fs' = [] then unif fun a => clrN i (fs a c (e'.set i (some (.obj (.ref a), false)))) else .bad
    | some false => .ex c fs' e'
    | none => .bad
  | r => r
section
variable {X : Cx} {W : WX} {A : Nat → Prop} {a b : Expr} {rest : List Expr} {pos p p1 p2 : Pos} {H0 : Bas} {G0 : Hp}
/-! ### isinstance of the caught error -/
def IsTab (K : PySem.W.Frag) (mg : Str → Option Value) (cv : Value) (t : String → Option Bool) : Prop := ∀ c b cls, t c = some b → mg (Str.ofString c) = some cls → ∃ C, cls = .ref C ∧ ExcC K C ∧ PySem.W.kitOne K (.ref C) cv = some b
theorem IsTab.nil {K : PySem.W.Frag} {mg : Str → Option Value} {cv : Value} : IsTab K mg cv (fun _ => none) := fun c b cls h _ => by cases h
theorem IsTab.cons {K : PySem.W.Frag} {mg : Str → Option Value} {cv : Value} {n : String} {C : Addr} {b : Bool} {f : String → Option Bool} (hm : mg (Str.ofString n) = some (.ref C)) (hc : ExcC K C) (he : PySem.W.kitOne K (.ref C) cv = some b) (t : IsTab K mg cv f) : IsTab K mg cv (fun s => if s = n then some b else f s) := fun k b' cls h hcl => by
  dsimp only at h
  by_cases hk : k = n
  · subst hk
    rw [if_pos rfl] at h
    cases h
    rw [hm] at hcl
    cases hcl
    exact ⟨C, rfl, hc, he⟩
  · rw [if_neg hk] at h
    exact t k b' cls h hcl
def eIsE (i : Nat) (a : Addr) (o : Option Bool) : DL.Env → Res D := fun e => match e[i]? with
  | some (some (.obj (.ref a'), false)) => if a' = a then (match o with | some b => .ok (.bl b) | none => .bad) else .bad
  | _ => .bad
end
end DL

namespace DL
open PySem PySem.Spec PyProof.Rows L2
open PySem.Builtin.Int (intBits)
/-! ### dicts: the data -/
open Classical in
/-- what stands at a key -/
noncomputable def dFind (kvs : List (D × D)) (k : D) : Option D := (kvs.find? fun p => decide (p.1 = k)).map (·.2)
open Classical in
/-- a key set -/
noncomputable def dSet (kvs : List (D × D)) (k d : D) : List (D × D) := if (kvs.any fun p => decide (p.1 = k)) = true then kvs.map (fun p => if p.1 = k then (p.1, d) else p) else kvs ++ [(k, d)]
theorem keyD_inj {a b : Key} (h : keyD a = keyD b) : a = b := by
  cases a <;> cases b <;> simp [keyD] at h <;> rw [h]
theorem keyT_inj : ∀ {a b : List Key}, keyT a = keyT b → a = b := by
  intro a b h
  unfold keyT at h
  injection h with h
  induction a generalizing b with
  | nil => cases b with
    | nil => rfl
    | cons _ _ => simp at h
  | cons x a ih => cases b with
    | nil => simp at h
    | cons y b =>
      simp only [List.map_cons, List.cons.injEq] at h
      rw [keyD_inj h.1, ih h.2]
section
variable {κ : Type} [DecidableEq κ] {f : κ → D} {K : PySem.W.Frag} {G : Hp}
theorem repv_find (hf : ∀ a b, f a = f b → a = b) : ∀ {kvs : List (D × D)} {ps : List (κ × V)}, kvs.map (·.1) = ps.map (fun p => f p.1) → RepV K G kvs (ps.map (·.2)) → ∀ k : κ,
    (dFind kvs (f k) = none ∧ valV ps k = none) ∨ ∃ d v, dFind kvs (f k) = some d ∧ valV ps k = some v ∧ Rep K G d v
  | [], [], _, _, k => .inl ⟨rfl, rfl⟩
  | [], _ :: _, h, _, _ => by simp at h
  | _ :: _, [], h, _, _ => by simp at h
  | (k0, d0) :: kvs, (c0, v0) :: ps, h, r, k => by
    simp only [List.map_cons, List.cons.injEq] at h
    obtain ⟨v, r', e, r1, r2⟩ := r
    simp only [List.map_cons, List.cons.injEq] at e
    obtain ⟨e1, e2⟩ := e
    subst e1 e2
    have ih := repv_find hf h.2 r2 k
    have hk0 : k0 = f c0 := h.1
    subst hk0
    by_cases hk : c0 = k
    · subst hk
      refine .inr ⟨d0, v0, ?_, ?_, r1⟩
      · simp [dFind]
      · simp [valV]
    · have hk' : ¬ f c0 = f k := fun z => hk (hf _ _ z)
      have e1 : dFind ((f c0, d0) :: kvs) (f k) = dFind kvs (f k) := by simp [dFind, hk']
      have e2 : valV ((c0, v0) :: ps) k = valV ps k := by simp [valV, hk]
      rw [e1, e2]
      exact ih
end
end DL

namespace DL
open PySem PySem.Spec PyProof.Rows L2
open PySem.Builtin.Int (intBits)
/-! ### dicts: the rules -/
def eDNew (t : Bool) : DL.Env → Res D := fun _ => .ok (.dct t [])
section
variable {X : Cx} {W : WX} {A : Nat → Prop} {a b : Expr} {rest : List Expr} {pos p p1 p2 apos cpos : Pos} {H0 : Bas} {G0 : Hp}
/-- a key that fits the dict's kind -/
def D.isKey : D → Bool
  | .int _ => true
  | .str _ => true
  | _ => false
def D.keyOk (t : Bool) : D → Bool
  | .tup ds => t && ds.all D.isKey
  | d => !t && d.isKey
theorem key_of {d : D} (h : d.isKey = true) : ∃ k : Key, d = keyD k := by
  cases d with
  | int i => exact ⟨.inl i, rfl⟩
  | str x => exact ⟨.inr x, rfl⟩
  | _ => cases h
theorem keys_of : ∀ {ds : List D}, ds.all D.isKey = true → ∃ ks : List Key, ds = ks.map keyD
  | [], _ => ⟨[], rfl⟩
  | d :: ds, h => by
    simp only [List.all_cons, Bool.and_eq_true] at h
    obtain ⟨k, e⟩ := key_of h.1
    obtain ⟨ks, e2⟩ := keys_of h.2
    exact ⟨k :: ks, by rw [e, e2]; rfl⟩
theorem rep_key {K : PySem.W.Frag} {G : Hp} {k : Key} {v : V} (r : Rep K G (keyD k) v) : v = kV k := by
  cases k with
  | inl i => exact r
  | inr x => exact r
theorem rep_keys {K : PySem.W.Frag} {G : Hp} : ∀ {ks : List Key} {vs : List V}, RepL K G (ks.map keyD) vs → vs = ks.map kV
  | [], _, h => h
  | k :: ks, _, ⟨v, r, e, h1, h2⟩ => by rw [e, rep_key h1, rep_keys h2]; rfl
/-- what a dict tells at a key -/
theorem dget_rep {K : PySem.W.Frag} {H G : Hp} {t : Bool} {kvs : List (D × D)} {a : Addr} {k : D} {y : V} (sg : Sub G H) (r : RepC K H G (.dct t kvs) (.ref a)) (hk : D.keyOk t k = true) (ry : Rep K G k y) :
    ∃ o, DGet H a y o ∧ ((dFind kvs k = none ∧ o = none) ∨ ∃ d v, dFind kvs k = some d ∧ o = some v ∧ Rep K G d v) := by
  obtain ⟨a', ea, h⟩ := r
  cases ea
  rcases h with ⟨t0, ps, s, hkeys, rv⟩ | ⟨t0, ps, s, hkeys, rv⟩
  · subst t0
    have hk' : k.isKey = true := by
      cases k with
      | tup ds => simp [D.keyOk] at hk
      | _ => simpa [D.keyOk] using hk
    obtain ⟨κ, e⟩ := key_of hk'
    subst e
    refine ⟨valV ps κ, .inl ⟨ps, κ, s, rep_key ry, rfl⟩, ?_⟩
    exact repv_find (fun _ _ => keyD_inj) hkeys rv κ
  · subst t0
    cases k with
    | tup ds =>
      have hk' : ds.all D.isKey = true := by simpa [D.keyOk] using hk
      obtain ⟨ks, e⟩ := keys_of hk'
      subst e
      obtain ⟨b, vs, e1, e2, e3⟩ := ry
      have := rep_keys e3
      subst this
      refine ⟨valV ps ks, .inr ⟨ps, ks, b, s, e1, sg _ _ e2, rfl⟩, ?_⟩
      exact repv_find (f := keyT) (fun _ _ => keyT_inj) hkeys rv ks
    | _ => simp [D.keyOk] at hk
/-- d[k] -/
noncomputable def dAt : D → D → Res D := fun d k => match d with
  | .dct t kvs => if D.keyOk t k = true then (match dFind kvs k with | some x => .ok x | none => .bad) else .bad
  | _ => .bad
theorem de_dix {fa fb : DL.Env → Res D} (hu : X.A.units + 1 < cLine) (ha : DR X W A a fa) (hb : DE X W A b fb) (hs : NoSl b) : DE X W A (.Subscript a b pos) (eOp dAt fa fb) :=
  (pe_dget hu ha hb hs).imp fun σ H Q ⟨e, G, E, q⟩ => ⟨e, G, E, q.split.imp fun d H1 G1 x1 q1 v rv => ⟨e, G1, E.ext x1, q1.split.imp fun k H2 G2 x2 q2 y ry => by
    have rv := rv.mono x2.hh x2.gg
    cases d with
    | dct t kvs =>
      dsimp only [dAt] at q2
      by_cases hk : D.keyOk t k = true
      · rw [if_pos hk] at q2
        obtain ⟨a', ea, _⟩ := id rv
        subst ea
        obtain ⟨o, h1, h2⟩ := dget_rep x2.gh rv hk ry
        rcases h2 with ⟨e1, e2⟩ | ⟨d, w, e1, e2, e3⟩
        · rw [e1] at q2; exact q2.elim
        · rw [e1] at q2
          subst e2
          exact ⟨a', w, rfl, h1, q2.here x2.gh w e3⟩
      · rw [if_neg hk] at q2; exact q2.elim
    | _ => exact (show False from q2).elim⟩⟩
/-- d.get(k, x) -/
noncomputable def dGet2 : D → D → D → Res D := fun d k x => match d with
  | .dct t kvs => if D.keyOk t k = true then .ok ((dFind kvs k).getD x) else .bad
  | _ => .bad
noncomputable def eGet2 (fa fb fc : DL.Env → Res D) : DL.Env → Res D := fun e => (fa e).bind fun d => match d with
  | .dct t kvs => (fb e).bind fun k => (fc e).bind fun x => dGet2 (.dct t kvs) k x
  | _ => .bad
end
end DL

namespace DL
open PySem PySem.Spec PyProof.Rows L2
open PySem.Builtin.Int (intBits)
theorem _root_.L2.Room.hu1 {k : Nat} {A : Around} (h : Room k A) : A.units + 1 < cLine := by have := h.un; omega
/-- the dict that the name i holds, to be changed -/
def ownD (i : Nat) (e : DL.Env) (k : Bool → List (D × D) → Out) : Out := match e[i]? with
  | some (some (.dct t kvs, true)) => k t kvs
  | _ => .bad
/-- x[k] = v -/
noncomputable def sPutD (al : List Nat) (i : Nat) (fk fv : DL.Env → Res D) : DL.Env → Out := fun e => ownD i (fz al e) fun t kvs => sE al (fun e => (fv e).bind fun v => (fk e).bind fun k => .ok (k, v)) (fun kv e' =>
  if D.keyOk t kv.1 = true ∧ kvs.length < sizeLine then .nx (e'.set i (some (.dct t (dSet kvs kv.1 kv.2), true))) else .bad) e
section
variable {X : Cx} {W : WX} {H0 : Bas} {G0 : Hp} {al : List Nat} {pos p1 p2 : Pos}
/-- k in d, k not in d -/
noncomputable def dIn (no : Bool) : D → D → Res D := fun k d => match d with
  | .dct t kvs => if D.keyOk t k = true then .ok (.bl ((dFind kvs k).isSome != no)) else .bad
  | _ => .bad
theorem in_two {A : Nat → Prop} {fa fb : DL.Env → Res D} {no : Bool} {σ : L2.St} {H : Hp} {Q : VK} (h : tD X.K X.mg W A (eOp (dIn no) fa fb) σ H Q) :
    tD X.K X.mg W A fa σ H fun y H1 => tR X.K X.mg W A fb σ H1 fun x H2 => ∃ a o, x = V.ref a ∧ DGet H2 a y o ∧ Q (V.bl (o.isSome != no)) H2 := by
  obtain ⟨e, G, E, q⟩ := h
  refine ⟨e, G, E, q.split.imp fun k H1 G1 x1 q1 y ry => ⟨e, G1, E.ext x1, q1.split.imp fun d H2 G2 x2 q2 v rv => ?_⟩⟩
  cases d with
  | dct t kvs =>
    dsimp only [dIn] at q2
    by_cases hk : D.keyOk t k = true
    · rw [if_pos hk] at q2
      obtain ⟨a', ea, _⟩ := id rv
      subst ea
      obtain ⟨o, h1, h2⟩ := dget_rep x2.gh rv hk (ry.mono x2.gg)
      rcases h2 with ⟨e1, e2⟩ | ⟨d, w, e1, e2, e3⟩
      · rw [e1] at q2
        subst e2
        exact ⟨a', none, rfl, h1, q2.here x2.gh _ rfl⟩
      · rw [e1] at q2
        subst e2
        exact ⟨a', some w, rfl, h1, q2.here x2.gh _ rfl⟩
    · rw [if_neg hk] at q2; exact q2.elim
  | _ => exact (show False from q2).elim
theorem test_of {A : Nat → Prop} {f : DL.Env → Res D} {σ : L2.St} {H : Hp} {Q : Bool → Hp → Prop} (h : tT X.K X.mg W A (fun e => (f e).bind D.asB) σ H Q) : tD X.K X.mg W A f σ H fun v H' => ∃ k, v = .bl k ∧ Q k H' := by
  obtain ⟨e, G, E, q⟩ := h
  refine ⟨e, G, E, q.split.imp fun d H1 G1 x1 q1 v rv => ?_⟩
  cases d with
  | bl b => exact ⟨b, rv, q1.here x1.gh⟩
  | _ => exact (show False from q1).elim
theorem bTest_is (g : D → D → Res D) (fa fb : DL.Env → Res D) : bTest g fa fb = fun e => (eOp g fa fb e).bind D.asB := by
  funext e
  unfold bTest eOp
  cases fa e with
  | ok x => cases fb e with
    | ok y => rfl
    | exc c z => rfl
    | bad => rfl
  | exc c z => rfl
  | bad => rfl
theorem dt_dnotin {A : Nat → Prop} {a b : Expr} {fa fb : DL.Env → Res D} (hu : X.A.units + 1 < cLine) (ha : DE X W A a fa) (hb : DR X W A b fb) (hm : behindInMarks .NotIn b = false := by rfl) : DT X W A (.Compare a [.NotIn] [b] pos) (bTest (dIn true) fa fb) :=
  (pt_cmp (pc_dnotin hu ha hb) hm).imp fun σ H Q h => by
    rw [bTest_is] at h
    have := in_two (test_of h)
    simp only [Bool.bne_true] at this
    exact this
end
end DL

/-! sorting tuples of any lengths, empty ones too -/
namespace DL
open PySem PySem.W PySem.Calls PyProof.Rows PySem.SeqAt
section
variable {prog : Program} {w : World} {A : Around} {s : Shared}
end
end DL

/-! sorted(x), x a list, a tuple or a dict -/
namespace DL
open PySem PySem.Spec PyProof.Rows L2
section
open PySem.W PySem.Calls PySem.SeqAt
variable {prog : Program} {w : World} {A : Around} {s : Shared}
end
/-! ### data -/
def D.le (x y : D) : Bool := !D.lt y x
/-- these can be sorted -/
structure SortOk (xs : List D) : Prop where
  len : xs.length ≤ sizeLine
  pl : ∀ x ∈ xs, x.pl 50 = true
  al : ∀ x ∈ xs, ∀ y ∈ xs, PySem.W.alike x.py y.py = true
  kd : (∀ x ∈ xs, ∃ ys, x = .tup ys) ∨ ∀ x ∈ xs, x ≠ .non ∧ (∀ ys, x ≠ .tup ys) ∧ ∀ ys, x ≠ .con ys
theorem SortOk.alike {xs : List D} (h : SortOk xs) : PySem.W.AllAlike (xs.map D.py) := by
  intro d hd d' hd'
  obtain ⟨x, hx, rfl⟩ := List.mem_map.mp hd
  obtain ⟨y, hy, rfl⟩ := List.mem_map.mp hd'
  exact h.al x hx y hy
section
variable {X : Cx} {W : WX}
end
end DL

/-! rules that look at the data: index, in, is, slices with a step, methods -/
namespace DL
open PySem PySem.Spec PyProof.Rows L2
open PySem.Builtin.Int (intBits)
section
variable {X : Cx} {W : WX} {A : Nat → Prop} {a b c ex : Expr} {pos p p1 p2 apos cpos : Pos}
/-- either of two readings, as the data say -/
theorem de_pick {f f1 f2 : DL.Env → Res D} (h1 : DE X W A ex f1) (h2 : DE X W A ex f2) (hf : ∀ e, f e = f1 e ∨ f e = f2 e ∨ f e = .bad) : DE X W A ex f :=
  ⟨fun pins s σ H Q I ⟨e, G, E, q⟩ => by
    rcases hf e with z | z | z
    · rw [z] at q; exact h1.run pins s σ H Q I ⟨e, G, E, q⟩
    · rw [z] at q; exact h2.run pins s σ H Q I ⟨e, G, E, q⟩
    · rw [z] at q; exact q.elim⟩
theorem dt_pick {f f1 f2 : DL.Env → Res Bool} (h1 : DT X W A ex f1) (h2 : DT X W A ex f2) (hf : ∀ e, f e = f1 e ∨ f e = f2 e ∨ f e = .bad) : DT X W A ex f :=
  ⟨fun pins s σ H Q I ⟨e, G, E, q⟩ => by
    rcases hf e with z | z | z
    · rw [z] at q; exact h1.run pins s σ H Q I ⟨e, G, E, q⟩
    · rw [z] at q; exact h2.run pins s σ H Q I ⟨e, G, E, q⟩
    · rw [z] at q; exact q.elim⟩
theorem eOp_pick {g g1 g2 : D → D → Res D} {fa fb : DL.Env → Res D} (h : ∀ x y, g x y = g1 x y ∨ g x y = g2 x y ∨ g x y = .bad) (e : DL.Env) : eOp g fa fb e = eOp g1 fa fb e ∨ eOp g fa fb e = eOp g2 fa fb e ∨ eOp g fa fb e = .bad := by
  unfold eOp
  cases ha : fa e with
  | ok x =>
    cases hb : fb e with
    | ok y => exact h x y
    | exc _ _ => exact .inl rfl
    | bad => exact .inl rfl
  | exc _ _ => exact .inl rfl
  | bad => exact .inl rfl
theorem bTest_pick {g g1 g2 : D → D → Res D} {fa fb : DL.Env → Res D} (h : ∀ x y, g x y = g1 x y ∨ g x y = g2 x y ∨ g x y = .bad) (e : DL.Env) : bTest g fa fb e = bTest g1 fa fb e ∨ bTest g fa fb e = bTest g2 fa fb e ∨ bTest g fa fb e = .bad := by
  unfold bTest
  cases ha : fa e with
  | ok x =>
    cases hb : fb e with
    | ok y =>
      rcases h x y with z | z | z
      · exact .inl (by simp only [Res.bind_ok, z])
      · exact .inr (.inl (by simp only [Res.bind_ok, z]))
      · exact .inr (.inr (by simp only [Res.bind_ok, z, Res.bind_bad]))
    | exc _ _ => exact .inl rfl
    | bad => exact .inl rfl
  | exc _ _ => exact .inl rfl
  | bad => exact .inl rfl
/-! ### x[k] of any kind -/
noncomputable def dIxA (x y : D) : Res D := match x with
  | .dct t kvs => dAt (.dct t kvs) y
  | x => dIx x y
theorem de_ixA {fa fb : DL.Env → Res D} (hu : X.A.units + 1 < cLine) (ha : DR X W A a fa) (hb : DE X W A b fb) (hs : NoSl b) (hs2 : PlainIx b) : DE X W A (.Subscript a b pos) (eOp dIxA fa fb) :=
  de_pick (de_dix hu ha hb hs) (de_ix ha (dr hb) hs2) (eOp_pick fun x y => by cases x <;> first | exact .inl rfl | exact .inr (.inl rfl))
/-! ### is -/
def dIs : D → D → Res D
  | .bl a, .bl b => .ok (.bl (decide (a = b)))
  | .obj _, .non => .bad
  | .non, .non => .ok (.bl true)
  | _, .non => .ok (.bl false)
  | _, _ => .bad
def dIsNot (x y : D) : Res D := (dIs x y).bind fun z => match z with
  | .bl k => .ok (.bl (!k))
  | _ => .bad
theorem non_rep {K : PySem.W.Frag} {H G : Hp} {d : D} {v : V} (h : ∀ u, d ≠ .obj u) (r : RepC K H G d v) : decide (v = .non) = (match d with | .non => true | _ => false) := by
  cases d with
  | non => exact decide_eq_true r
  | bl b => exact decide_eq_false (by rw [show v = _ from r]; simp)
  | int b => exact decide_eq_false (by rw [show v = _ from r]; simp)
  | str b => exact decide_eq_false (by rw [show v = _ from r]; simp)
  | obj u => exact absurd rfl (h u)
  | tup _ => obtain ⟨a, vs, e, _⟩ := (show Rep K G (.tup _) v from r); subst e; rfl
  | con _ => obtain ⟨a, vs, e, _⟩ := (show Rep K G (.con _) v from r); subst e; rfl
  | lst _ => obtain ⟨a, vs, e, _⟩ := r; subst e; rfl
  | dct _ _ => obtain ⟨a, e, _⟩ := r; subst e; rfl
theorem od_isNot : OpD X W (compareOp .IsNot) dIsNot := by
  refine ⟨_, OpR.or op_notBl op_notN, fun σ H G x y dx dy Q sg rx ry p => ?_⟩
  cases dy with
  | bl b =>
    cases dx with
    | bl a => exact .inl ⟨a, b, rx, ry, PostG.val (d := .bl (!decide (a = b))) p sg rfl⟩
    | _ => exact (show False from p).elim
  | non =>
    have hy : y = .non := ry
    refine .inr ⟨hy, ?_⟩
    by_cases ho : ∃ u, dx = .obj u
    · obtain ⟨u, rfl⟩ := ho
      exact (show False from p).elim
    · rw [non_rep (fun u z => ho ⟨u, z⟩) rx]
      cases dx with
      | obj u => exact absurd ⟨u, rfl⟩ ho
      | non => exact PostG.val (d := .bl false) p sg rfl
      | _ => exact PostG.val (d := .bl true) p sg rfl
  | _ => cases dx <;> exact (show False from p).elim
/-! ### in, of lists, tuples and texts -/
def D.has (xs : List D) (k : D) : Bool := xs.any fun z => D.beq z k
def strIn (k s : Str) : Bool := !(Builtin.Str.occurrences s k 0 s.length 1).isEmpty
def dInS (no : Bool) : D → D → Res D := fun k c => match c with
  | .lst xs => if k.pl 50 = true ∧ D.pls xs 50 = true then .ok (.bl (D.has xs k != no)) else .bad
  | .tup xs => if k.pl 50 = true ∧ D.pls xs 50 = true then .ok (.bl (D.has xs k != no)) else .bad
  | .con xs => if k.pl 50 = true ∧ D.pls xs 50 = true then .ok (.bl (D.has xs k != no)) else .bad
  | .str s => match k with
    | .str k => .ok (.bl (strIn k s != no))
    | _ => .bad
  | _ => .bad
def rInT (K : PySem.W.Frag) (no : Bool) : R2 := fun x y H Q => ∃ d ds, Dp K H x d ∧ Dp K H y (.tuple ds) ∧ SeqAt.shaped d = true ∧ SeqAt.shaped (.tuple ds) = true ∧ Q (.bl ((ds.any fun z => PyData.eqv z d) != no)) H
theorem op_notInT (hu : X.A.units + 65 < cLine) : OpR X (compareOp .NotIn) (rInT X.K true) := by
  intro pins s σ H x y v u Q I rx ry h
  obtain ⟨d, ds, hd, he, sd, se, q⟩ := h
  obtain ⟨as, r1⟩ := Dp.reads I d x v hd rx
  obtain ⟨bs, r2⟩ := Dp.reads I (.tuple ds) y u he ry
  rw [Bool.bne_true] at q
  exact SeqAt.notIn_tuple_reads r2 r1 (SeqAt.canLay_of_shaped se) (SeqAt.canLay_of_shaped sd) (room_in_shaped sd hu) ⟨.bl _, H, I, rfl, q⟩
theorem any_pys (k : D) : ∀ xs : List D, ((D.pys xs).any fun z => PyData.eqv z k.py) = D.has xs k
  | [] => rfl
  | x :: xs => by
    unfold D.has
    rw [D.pys, List.any_cons, List.any_cons, any_pys k xs]
    rfl
theorem shaped_pyL {xs : List D} (h : D.pls xs 50 = true) : SeqAt.shaped (.list (D.pys xs)) = true := by
  have := shaped_py (d := .lst xs) (n := 51) (by simpa [D.pl] using h) (by decide)
  simpa [D.py] using this
theorem shaped_pyT {xs : List D} (h : D.pls xs 50 = true) : SeqAt.shaped (.tuple (D.pys xs)) = true := by
  have := shaped_py (d := .tup xs) (n := 51) (by simpa [D.pl] using h) (by decide)
  simpa [D.py] using this
theorem od_inS_gen {op : CmpOp} (no : Bool) (o1 : OpR X (compareOp op) fun x y H Q => ∃ d ds, Dp X.K H x d ∧ Dp X.K H y (.list ds) ∧ SeqAt.shaped d = true ∧ SeqAt.shaped (.list ds) = true ∧ Q (.bl ((ds.any fun z => PyData.eqv z d) != no)) H)
    (o2 : OpR X (compareOp op) (rInT X.K no)) (o3 : OpR X (compareOp op) fun x y H Q => ∃ i j, x = .str i ∧ y = .str j ∧ Q (.bl (strIn i j != no)) H) : OpD X W (compareOp op) (dInS no) := by
  refine ⟨_, OpR.or o1 (OpR.or o2 o3), fun σ H G x y dk dc Q sg rx ry p => ?_⟩
  cases dc with
  | lst xs =>
    dsimp only [dInS] at p
    by_cases hc : dk.pl 50 = true ∧ D.pls xs 50 = true
    · rw [if_pos hc] at p
      refine .inl ⟨dk.py, D.pys xs, Rep.dp dk 50 x hc.1 (rx.all sg (pl_nd hc.1)), ?_, shaped_py hc.1 (by decide), shaped_pyL hc.2, ?_⟩
      · obtain ⟨a, vs, rfl, s, r⟩ := ry
        exact .lst s (RepL.dp xs 50 vs hc.2 (r.mono sg))
      · rw [any_pys]; exact p.val sg rfl
    · rw [if_neg hc] at p; exact p.elim
  | tup xs =>
    dsimp only [dInS] at p
    by_cases hc : dk.pl 50 = true ∧ D.pls xs 50 = true
    · rw [if_pos hc] at p
      refine .inr (.inl ⟨dk.py, D.pys xs, Rep.dp dk 50 x hc.1 (rx.all sg (pl_nd hc.1)), ?_, shaped_py hc.1 (by decide), shaped_pyT hc.2, ?_⟩)
      · obtain ⟨a, vs, rfl, s, r⟩ := (show Rep X.K G (.tup xs) y from ry)
        exact .tup (sg.pt s) (RepL.dp xs 50 vs hc.2 (r.mono sg))
      · rw [any_pys]; exact p.val sg rfl
    · rw [if_neg hc] at p; exact p.elim
  | con xs =>
    dsimp only [dInS] at p
    by_cases hc : dk.pl 50 = true ∧ D.pls xs 50 = true
    · rw [if_pos hc] at p
      refine .inr (.inl ⟨dk.py, D.pys xs, Rep.dp dk 50 x hc.1 (rx.all sg (pl_nd hc.1)), ?_, shaped_py hc.1 (by decide), shaped_pyT hc.2, ?_⟩)
      · obtain ⟨a, vs, rfl, s, r⟩ := (show Rep X.K G (.con xs) y from ry)
        exact .tup (sg.sqt s) (RepL.dp xs 50 vs hc.2 (r.mono sg))
      · rw [any_pys]; exact p.val sg rfl
    · rw [if_neg hc] at p; exact p.elim
  | str s =>
    cases dk with
    | str k => exact .inr (.inr ⟨k, s, rx, ry, PostG.val (d := .bl (strIn k s != no)) p sg rfl⟩)
    | _ => exact (show False from p).elim
  | _ => exact (show False from p).elim
theorem od_notInS (hu : X.A.units + 65 < cLine) : OpD X W (compareOp .NotIn) (dInS true) :=
  od_inS_gen true (by
    have h := op_notInD (X := X) hu
    unfold rNotInD at h
    simpa only [Bool.bne_true] using h) (op_notInT hu) (by
    have h := op_notin_str (X := X)
    unfold strIn
    simpa only [Bool.bne_true] using h)
noncomputable def dInA (no : Bool) (k c : D) : Res D := match c with
  | .dct t kvs => dIn no k (.dct t kvs)
  | c => dInS no k c
theorem inA_pick (no : Bool) (x y : D) : dInA no x y = dIn no x y ∨ dInA no x y = dInS no x y ∨ dInA no x y = .bad := by
  cases y <;> first | exact .inl rfl | exact .inr (.inl rfl)
theorem dt_notInA {fa fb : DL.Env → Res D} (hu : X.A.units + 65 < cLine) (ha : DE X W A a fa) (hb : DR X W A b fb) (hm : behindInMarks .NotIn b = false := by rfl) : DT X W A (.Compare a [.NotIn] [b] pos) (bTest (dInA true) fa fb) :=
  dt_pick (dt_dnotin (by omega) ha hb hm) (dt_cmp (od_notInS hu) (dr ha) hb hm) (bTest_pick (inA_pick true))
theorem _root_.L2.Room.hu65 {k : Nat} {A : Around} (h : Room k A) : A.units + 65 < cLine := by have := h.un; omega
end
end DL

/-! methods, lists made, slices with a step -/
namespace DL
open PySem PySem.Spec PyProof.Rows L2
open PySem.Builtin.Int (intBits)
section
variable {X : Cx} {W : WX} {A : Nat → Prop} {a b c ex o e : Expr} {es : List Expr} {pos p p1 p2 p3 apos cpos : Pos} {T id : String} {name : Str}
/-! ### methods of a value that is read -/
/-! ### l.remove(k), l.insert(i, k) -/
mutual
theorem py_plain : ∀ (d : D) (n : Nat), d.pl n = true → d.py.plain = true
  | .non, n, _ => by simp [D.py, PyData.plain]
  | .bl _, n, _ => by simp [D.py, PyData.plain]
  | .int _, n, _ => by simp [D.py, PyData.plain]
  | .str _, n, _ => by simp [D.py, PyData.plain]
  | .obj _, n, h => by simp [D.pl] at h
  | .dct _ _, n, h => by simp [D.pl] at h
  | .con xs, 0, h => by simp [D.pl] at h
  | .con xs, n + 1, h => by
    simp only [D.py, PyData.plain]
    exact pys_plain xs n (by simpa [D.pl] using h)
  | .tup xs, 0, h => by simp [D.pl] at h
  | .lst xs, 0, h => by simp [D.pl] at h
  | .tup xs, n + 1, h => by
    simp only [D.py, PyData.plain]
    exact pys_plain xs n (by simpa [D.pl] using h)
  | .lst xs, n + 1, h => by
    simp only [D.py, PyData.plain]
    exact pys_plain xs n (by simpa [D.pl] using h)
theorem pys_plain : ∀ (ds : List D) (n : Nat), D.pls ds n = true → PyData.plainAll (D.pys ds) = true
  | [], n, _ => by simp [D.pys, PyData.plainAll]
  | d :: r, n, h => by
    have h' : d.pl n = true ∧ D.pls r n = true := by simpa [D.pls] using h
    simp only [D.pys, PyData.plainAll, py_plain d n h'.1, pys_plain r n h'.2, Bool.and_self]
end
/-! ### list(range(..)) -/
/-! ### [x] * n -/
theorem repl_flat {K : PySem.W.Frag} {G : Hp} {ds : List D} {vs : List V} (h : RepL K G ds vs) : ∀ n, RepL K G (List.replicate n ds).flatten (List.replicate n vs).flatten
  | 0 => rfl
  | n + 1 => by
    rw [List.replicate_succ, List.replicate_succ, List.flatten_cons, List.flatten_cons]
    exact h.append (repl_flat h n)
end
end DL

/-! zip and enumerate over lists and tuples, mixed -/
namespace DL
open PySem PySem.Spec PyProof.Rows L2
open PySem.Builtin.Int (intBits)
/-! ### a side: a list (false) or a tuple (true) -/
/-! ### zip -/
theorem nn {m n : Nat} (h : @Ne Nat m n) : @Ne Addr m n := h
section
variable {X : Cx} {W : WX} {A : Nat → Prop} {a b : Expr} {p pos tpos : Pos} {elts : List Expr} {kk : Nat}
end
end DL

/-! enumerate over a list or a tuple; slices with a step -/
namespace DL
open PySem PySem.Spec PyProof.Rows L2
open PySem.Builtin.Int (intBits)
section
variable {X : Cx} {W : WX} {A : Nat → Prop} {a b c ex : Expr} {lo hi : Option Expr} {p p2 p3 pos tpos : Pos} {elts : List Expr} {kk : Nat}
/-! ### xs[lo:hi:step] -/
end
end DL

/-! list(reversed(l)) -/
namespace DL
open PySem PySem.Spec PyProof.Rows L2 RT
open PySem.Builtin.Int (intBits)
section
variable {prog : Program} {w : World} {A : Around} {E : Value → Shared → Prop} {s : Shared}
end
section
variable {X : Cx}
end
end DL

/-! {k: v, ..} with keys that are written out -/
namespace DL
open PySem PySem.Spec PyProof.Rows L2
open PySem.Builtin.Int (intBits)
section
variable {K : PySem.W.Frag} {mg : Str → Option Value} {W : WX} {A : Nat → Prop}
end
section
variable {X : Cx} {W : WX} {A : Nat → Prop} {pos : Pos}
end
end DL

/-! dict(d); dicts with number and text keys compared -/
namespace DL
open PySem PySem.Spec PyProof.Rows L2
open PySem.Builtin.Int (intBits)
section
variable {X : Cx} {W : WX}
/-! ### == -/
end
end DL

/-! max, min of a list of numbers -/
namespace DL
open PySem PySem.Spec PyProof.Rows L2
open PySem.Builtin.Int (intBits)
def maxI : List Int → Int
  | [] => 0
  | x :: r => match r with
    | [] => x
    | _ :: _ => max x (maxI r)
theorem maxI_ok : ∀ {ns : List Int}, ns ≠ [] → maxI ns ∈ ns ∧ ∀ y ∈ ns, y ≤ maxI ns
  | [], h => absurd rfl h
  | [x], _ => ⟨List.mem_cons_self, fun y h => by rw [List.mem_singleton.mp h]; exact Int.le_refl _⟩
  | x :: y :: r, _ => by
    obtain ⟨a, b⟩ := maxI_ok (ns := y :: r) (by simp)
    show max x (maxI (y :: r)) ∈ _ ∧ ∀ z ∈ _, z ≤ max x (maxI (y :: r))
    refine ⟨?_, fun z hz => ?_⟩
    · rcases Int.le_total x (maxI (y :: r)) with h | h
      · rw [Int.max_eq_right h]; exact List.mem_cons_of_mem _ a
      · rw [Int.max_eq_left h]; exact List.mem_cons_self
    · rw [List.mem_cons] at hz
      rcases hz with rfl | hz
      · omega
      · have := b z hz; omega
def dMaxL : D → Res D
  | .lst xs => match D.ints xs with
    | some (n :: ns) => .ok (.int (maxI (n :: ns)))
    | _ => .bad
  | _ => .bad
theorem ints_rep {K : PySem.W.Frag} {G : Hp} : ∀ {ds : List D} {ns : List Int} {vs : List V}, D.ints ds = some ns → RepL K G ds vs → vs = ns.map V.int
  | [], ns, vs, h, r => by cases h; exact r
  | d :: ds, ns, vs, h, r => by
    obtain ⟨v, r', rfl, a, b⟩ := r
    cases d with
    | int i =>
      have h' : (D.ints ds).map (fun t => i :: t) = some ns := h
      cases hi : D.ints ds with
      | none => rw [hi] at h'; cases h'
      | some t =>
        rw [hi] at h'
        cases h'
        rw [show v = .int i from a, ints_rep hi b]
        rfl
    | _ => cases h
section
variable {X : Cx} {W : WX}
theorem c1_maxL (hc : X.calm = true) : Call1 X W (.builtin "max") dMaxL := by
  refine ⟨_, cr_max hc, fun σ H G x dx Q sg rx p => ?_⟩
  cases dx with
  | lst ds =>
    obtain ⟨q, vs, e, s, r⟩ := rx
    subst e
    dsimp only [dMaxL] at p
    cases hi : D.ints ds with
    | none => rw [hi] at p; exact p.elim
    | some ns =>
      rw [hi] at p
      cases ns with
      | nil => exact p.elim
      | cons n ns =>
        have ev := ints_rep hi r
        subst ev
        obtain ⟨a, b⟩ := maxI_ok (ns := n :: ns) (by simp)
        refine ⟨q, n :: ns, rfl, s, by simp, fun m m1 m2 => ?_⟩
        have e : m = maxI (n :: ns) := Int.le_antisymm (b m m1) (m2 _ a)
        rw [e]
        exact PostG.val (d := .int (maxI (n :: ns))) p sg rfl
  | _ => exact (show False from p).elim
end
end DL

/-! slices and sums of lists are new lists -/
namespace DL
open PySem PySem.Spec PyProof.Rows L2
open PySem.Builtin.Int (intBits)
section
variable {X : Cx} {W : WX} {A : Nat → Prop} {a b : Expr} {lo hi : Option Expr} {pos p2 : Pos}
/-- a + b of lists -/
def dCat : D → D → Res D
  | .lst a, .lst b => if a.length + b.length ≤ sizeLine then .ok (.lst (a ++ b)) else .bad
  | _, _ => .bad
theorem df_cat {fa fb : DL.Env → Res D} (ha : DR X W A a fa) (hb : DR X W A b fb) : DF X W A (.BinOp a .Add b pos) (eOp dCat fa fb) :=
  (pe_op op_catR ha hb).imp fun σ H Q ⟨en, G, E, q⟩ => ⟨en, G, E, q.split.imp fun d H1 G1 x1 q1 v rv => ⟨en, G1, E.ext x1, q1.split.imp fun d2 H2 G2 x2 q2 u ru => by
    have rv := rv.mono x2.hh x2.gg
    have sg := x2.gh
    cases d with
    | lst xs =>
      cases d2 with
      | lst ys =>
        obtain ⟨l, vs, rfl, s1, r1⟩ := rv
        obtain ⟨m, ws, rfl, s2, r2⟩ := ru
        by_cases hc : xs.length + ys.length ≤ sizeLine
        · have q2' : PostG X.K X.mg _ H2 G2 (if xs.length + ys.length ≤ sizeLine then Res.ok (D.lst (xs ++ ys)) else .bad) _ := q2
          rw [if_pos hc] at q2'
          refine ⟨l, m, vs, ws, rfl, rfl, s1, s2, by rw [r1.length, r2.length]; exact hc, fun p hp => ?_⟩
          exact q2' (upd H2 p (.lst (vs ++ ws))) G2 ⟨Sub.upd hp, Sub.refl _, sg.trans (Sub.upd hp), fun b z => .inl z⟩ p (x1.hh.free (x2.hh.free hp)) (sg.free hp) ⟨_, upd_same, r1.append r2⟩
        · have q2' : PostG X.K X.mg _ H2 G2 (if xs.length + ys.length ≤ sizeLine then Res.ok (D.lst (xs ++ ys)) else .bad) _ := q2
          rw [if_neg hc] at q2'
          exact q2'.elim
      | _ => exact (show False from q2).elim
    | _ => cases d2 <;> exact (show False from q2).elim⟩⟩
end
end DL

/-! sets of numbers and texts made of a list: how many, and sorted -/
namespace DL
open PySem PySem.Spec PyProof.Rows L2
open PySem.Builtin.Int (intBits)
section
variable {α β : Type} {F : α → β → Prop}
end
def GoodK (P : Program) (w : World) (k : Key) (e : Int × Value) : Prop := (mixKind P w).is k e.2 = true ∧ e.1 = (mixKind P w).hash k ∧ e.2.scannable = true
/-- a set of numbers and texts, that can be walked -/
def SetG (P : Program) (w : World) (h : Heap) (a : Addr) (ks : List Key) : Prop :=
  ∃ o es ep t ls, h.get? a = some o ∧ o.ExactSet ∧ o.data = .set es ep t ∧ Paired (GoodK P w) ls es.toList ∧ ls.Perm ks ∧ ks.Nodup ∧ es.size < scanBound ∧ t.fits es.size = true ∧ L2.Ris t.place.toList ∧ (w.params.followText "set-order" = true ∨ t.led = true)
section
variable {P : Program} {w : World} {A : Around} {E : Value → Shared → Prop} {s : Shared} {a : Addr} {ks : List Key}
theorem SetG.at {h h' : Heap} (R : SetG P w h a ks) (k : ∀ o, h.get? a = some o → h'.get? a = some o) : SetG P w h' a ks := by
  obtain ⟨o, es, ep, t, ls, ho, r⟩ := R
  exact ⟨o, es, ep, t, ls, k o ho, r⟩
set_option maxRecDepth 100000 in
set_option maxHeartbeats 3200000 in
end
end DL

/-! len(set(l)), sorted(set(l)) of numbers and texts -/
namespace DL
open PySem PySem.Spec PyProof.Rows L2
section
open PySem.W PySem.Calls PySem.SeqAt
variable {prog : Program} {w : World} {A : Around} {s : Shared}
end
/-! ### keys in order -/
/-! ### the rules -/
def D.key : D → Option Key
  | .int i => some (.inl i)
  | .str x => some (.inr x)
  | _ => none
section
variable {X : Cx} {W : WX} {A : Nat → Prop} {a : Expr} {p p2 q pos : Pos}
end
end DL

/-! len(set(l)), sorted(set(l)), max(l, default=c) over data -/
namespace DL
open PySem PySem.Spec PyProof.Rows L2
section
variable {X : Cx} {W : WX} {A : Nat → Prop} {a : Expr} {p p2 q pos : Pos}
/-! max(l, default=c) -/
end
end DL

/-! a <= b <= c <= d; l.count(n) -/
namespace DL
open PySem PySem.Spec PyProof.Rows L2
section
variable {X : Cx} {W : WX} {A : Nat → Prop} {a b c d : Expr} {pos : Pos}
/-! l.count(n) of whole numbers -/
end
end DL

/-! a tuple times a number, the factor one, too -/
namespace L2
open PySem PySem.Spec PyProof.Rows
theorem once_ops (l : Addr) (its : Array Value) (m : Nat) (q : Option Addr) (sl : Array (Option Value)) (u : Tok) :
    Meets (Builtin.«tuple.__mul__» ⟨[.ref l, .int 1 u], []⟩) (fun _ R s => s.heap.get? l = some { cls := .type "tuple", dict := q, data := .seq its m, slots := sl } ∧ R (.ok (.ret (Value.ref l))) s) :=
  .of_wp fun prog w A R s h => by
    obtain ⟨hp, g, d, tk, os⟩ := s
    obtain ⟨k1, k2⟩ := h
    have fx := AutoSeq1.idx_int
    wp_walk using wpAny_loadPart' k1
    repeat (first
      | (refine wpAny_ite_false (decide_eq_false (by decide)) ?_; wp_walk using wpAny_loadPart' k1)
      | (refine wpAny_ite_true (decide_eq_true (by simp)) ?_; wp_walk using wpAny_loadPart' k1))
    all_goals exact ⟨_, rfl, k2⟩
def rOnceT (K : PySem.W.Frag) : R2 := fun x y H Q => ∃ l xs, x = .ref l ∧ y = .int 1 ∧ SqT K H l xs ∧ Q (.ref l) H
variable {X : Cx}
theorem op_onceT : OpR X (binaryOp .Mult) (rOnceT X.K) := by
  intro pins s σ H x y v u Q I a b h
  obtain ⟨l, xs, rfl, rfl, c, e⟩ := h
  cases a
  obtain ⟨t, rfl⟩ := b
  obtain ⟨its, r, ⟨⟨c1, d1, d2, sl⟩, ho, c2, m, c3⟩, _⟩ := I.tuple c
  simp only at c2 c3
  subst c2 c3
  exact wpAny_binaryOp_repeat_ref (T := "tuple") (U := "int") (by decide) ⟨_, ho, rfl⟩ (fun z => typeIs_int z 1 t) noFill_tuple_mul F.fills_int_mul F.slot_int_rmul repeat_tuple F.slot_int_index.lookup
    (call_meets F.slot_int_rmul (typeIs_int s 1 t) F.entry_int_rmul (F.args_int_rmul_2 _ _) (int_rmul_tuple 1 t l its.toArray m d1 sl)
      ⟨ho, rfl, ⟨_, ho, rfl⟩, call_meets F.slot_tuple_mul ⟨_, ho, rfl⟩ F.entry_tuple_mul (F.args_tuple_mul_2 _ _) (once_ops l its.toArray m d1 sl t) ⟨ho, .ref l, H, I, rfl, e⟩⟩)
end L2
namespace DL
open PySem PySem.Spec PyProof.Rows L2
section
variable {X : Cx} {W : WX}
def dRepT : D → D → Res D
  | .tup xs, .int k => if k = 1 then .ok (.tup xs) else if 2 ≤ k ∧ k ≤ 1000 ∧ xs ≠ [] ∧ xs.length ≤ 1000 then .ok (.tup (List.replicate k.toNat xs).flatten) else .bad
  | _, _ => .bad
theorem od_repT : OpD X W (binaryOp .Mult) dRepT := by
  refine ⟨_, OpR.or op_onceT op_repT, fun σ H G x y dx dy Q sg rx ry p => ?_⟩
  cases dx with
  | tup i =>
    cases dy with
    | int j =>
      have ey : y = .int j := ry
      obtain ⟨a, vs, e1, s1, r1⟩ := (show Rep X.K G (.tup i) x from rx)
      dsimp only [dRepT] at p
      by_cases h1 : j = 1
      · rw [if_pos h1] at p
        subst h1
        exact .inl ⟨a, vs, e1, ey, .of (sg a _ s1), p.here sg _ ⟨a, vs, rfl, s1, r1⟩⟩
      · rw [if_neg h1] at p
        by_cases hc : 2 ≤ j ∧ j ≤ 1000 ∧ i ≠ [] ∧ i.length ≤ 1000
        · rw [if_pos hc] at p
          refine .inr ⟨a, j, vs, e1, ey, .of (sg a _ s1), fun z => hc.2.2.1 ?_, hc.1, hc.2.1, by rw [r1.length]; exact hc.2.2.2, fun q hq => ?_⟩
          · have := r1.length
            rw [z] at this
            exact List.eq_nil_of_length_eq_zero this.symm
          · exact p _ _ (Ext.laid sg hq) _ ⟨q, _, rfl, upd_same, (repl_flat r1 _).mono (Sub.upd (sg.free hq))⟩
        · rw [if_neg hc] at p; exact p.elim
    | _ => exact (show False from p).elim
  | _ => exact (show False from p).elim
end
end DL

/-! a def that is handed a list of the caller's own as its first value and gives back one of its own -/
namespace DL
open PySem PySem.Spec PyProof.Rows L2
/-- such a def's promise -/
def spO (K : PySem.W.Frag) (mg : Str → Option Value) (n : Nat) (F : List D → Res D) : Sp := fun vs H Q E => vs.length = n ∧ ∃ a vr d dr G Hm, vs = .ref a :: vr ∧ Sub G Hm ∧ Sub Hm H ∧ Hm a = none ∧ OwnC K H G d a ∧ RepL K G dr vr ∧
  PostG K mg E Hm G (F (d :: dr)) fun r H' G' => ∀ b, Hm b = none → G' b = none → OwnC K H' G' r b → Q (.ref b) H'
structure CallOkO (P : Program) (w : World) (K : PySem.W.Frag) (mg : Str → Option Value) (base : Heap) (k : Nat) (x : Str) (ps : List Str) (F : List D → Res D) : Prop where
  ok : ∃ f fd, mg x = some (.ref f) ∧ PySem.W.keepIn K (.ref f) = true ∧ Binds K fd ps [] ∧ FnOk P w K mg base (L2.CX P w) k f fd ps (spO K mg ps.length F)
theorem CallOkO.up {P : Program} {w : World} {K : PySem.W.Frag} {mg : Str → Option Value} {base : Heap} {j k : Nat} {x : Str} {ps : List Str} {F : List D → Res D} (h : CallOkO P w K mg base j x ps F) (hjk : j ≤ k) : CallOkO P w K mg base k x ps F :=
  let ⟨f, fd, h1, h2, h3, h4⟩ := h.ok
  ⟨f, fd, h1, h2, h3, h4.mono hjk⟩
section
variable {X : Cx} {W : WX} {H0 : Bas} {G0 : Hp} {al : List Nat} {pos p : Pos}
end
end DL

/-! d.values() as a value; max(d.values(), default=c) -/
namespace L2
open PySem PySem.Spec PyProof.Rows
section
variable {X : Cx} {o : Expr} {apos mpos : Pos} {td : TE}
end
end L2
namespace DL
open PySem PySem.Spec PyProof.Rows L2
section
variable {X : Cx} {W : WX} {A : Nat → Prop} {o : Expr} {apos mpos p pos : Pos}
theorem Rd.mono' {H H' : Hp} (h : Sub H H') {a : Addr} {u : HO} (r : Rd H a u) : Rd H' a u := h.rd r
end
end DL

/-! comprehensions within one another -/
namespace DL
open PySem PySem.Spec PyProof.Rows L2
end DL

/-! dicts that are walked: keys, values, items -/
namespace DL
open PySem PySem.Spec PyProof.Rows L2
section
variable {X : Cx} {pins : List (Addr × Obj)} {σ : L2.St} {H : Hp} {s : Shared} {d : Addr} {o : Obj}
end
section
variable {P : Program} {w : World} {K : PySem.W.Frag} {tg : Expr} {d : Addr} {o : Obj} {es : Array DictEntry} {ep : Nat}
end
section
variable {X : Cx} {tg e : Expr} {td : TE} {apos cpos : Pos}
end
/-! what they walk, as data -/
section
variable {K : PySem.W.Frag} {B G : Hp} {d : Addr} {o : Obj}
end
section
variable {X : Cx} {W : WX} {A : Nat → Prop} {tg ex : Expr} {f : DL.Env → Res D} {apos cpos : Pos}
end
end DL

/-! dicts with tuple keys compared (values whole numbers) -/
namespace DL.EqH
open Lean PySem PySem.Calls PyProof.Rows PyProof.V PySem.Spec PySem.W
section
variable {prog : Program} {w : World} {K : Type} [DecidableEq K] {knd : HeapKind prog w K} {A : Around} {E : Value → Shared → Prop} {s : Shared}
inductive HitsH {K : Type} [DecidableEq K] (A : Around) (s : Shared) (kb : List (K × Addr × Value)) : List (K × Addr × Value) → Bool → Prop
  | nil : HitsH A s kb [] true
  | miss {k : K} {v : Addr × Value} {r : List (K × Addr × Value)} : (∀ (j : Nat) (p : Addr × Value), kb[j]? ≠ some (k, p)) → HitsH A s kb ((k, v) :: r) false
  | hit {k : K} {v y : Addr × Value} {r : List (K × Addr × Value)} {e b : Bool} {j : Nat} : kb[j]? = some (k, y) → SeqAt.EqAt A s v.2 y.2 e → HitsH A s kb r b → HitsH A s kb ((k, v) :: r) (e && b)
theorem HitsH.inv {kb : List (K × Addr × Value)} {k : K} {v : Addr × Value} {r : List (K × Addr × Value)} {b : Bool} (h : HitsH A s kb ((k, v) :: r) b) :
    ((∀ (j : Nat) (p : Addr × Value), kb[j]? ≠ some (k, p)) ∧ b = false) ∨ ∃ (j : Nat) (y : Addr × Value) (e b' : Bool), kb[j]? = some (k, y) ∧ SeqAt.EqAt A s v.2 y.2 e ∧ HitsH A s kb r b' ∧ b = (e && b') := by
  cases h with
  | miss hn => exact .inl ⟨hn, rfl⟩
  | hit hy he hr => exact .inr ⟨_, _, _, _, hy, he, hr, rfl⟩
end
end DL.EqH
namespace DL
open PySem PySem.Spec PyProof.Rows L2
section
variable {X : Cx} {W : WX}
end
end DL

/-! isinstance(e, (A, B, ..)), e the error that a handler names -/
namespace DL
open PySem PySem.Spec PyProof.Rows L2
def anyO : List (Option Bool) → Option Bool
  | [] => some false
  | some true :: _ => some true
  | some false :: r => anyO r
  | none :: _ => none
/-- the tables of several classes, at the class k -/
inductive Tabs (K : PySem.W.Frag) (mg : Str → Option Value) (k : String) : List V → List Value → List (Option Bool) → Prop where
  | nil : Tabs K mg k [] [] []
  | cons {c : Addr} {t : String → Option Bool} {vs : List V} {us : List Value} {os : List (Option Bool)} (h : IsTab K mg (.ref c) t) (r : Tabs K mg k vs us os) : Tabs K mg k (.ref c :: vs) (.ref c :: us) (t k :: os)
theorem Tabs.any {K : PySem.W.Frag} {mg : Str → Option Value} {k : String} {C : Addr} (hm : mg (Str.ofString k) = some (.ref C)) {vs : List V} {us : List Value} {os : List (Option Bool)} (h : Tabs K mg k vs us os) : ∀ {b : Bool}, anyO os = some b → PySem.W.kitAny K (.ref C) us = some b := by
  induction h with
  | nil => intro b h; cases h; exact kitAny_nil
  | @cons c t vs us os h r ih =>
    intro b hb
    cases ht : t k with
    | none => rw [ht] at hb; cases hb
    | some z =>
      obtain ⟨C', e, _, h3⟩ := h k z _ ht hm
      cases e
      rw [ht] at hb
      cases z with
      | true => cases hb; exact kitAny_cons h3 (fun z => by cases z) fun _ => rfl
      | false => exact kitAny_cons h3 (fun _ => ih hb) fun z => by cases z
section
variable {X : Cx} {W : WX} {A : Nat → Prop} {pos p p1 p2 : Pos}
end
end DL

/-! a def that is lent lists and dicts of the caller's own: it may change them; the caller has them back -/
namespace DL
open PySem PySem.Spec PyProof.Rows L2
/-- the promise of a def that is lent its parameters at bs -/
def spM (K : PySem.W.Frag) (mg : Str → Option Value) (n : Nat) (bs : List Nat) (F : List D → Res (D × List D)) : Sp := fun vs H Q E => vs.length = n ∧ ∃ (ds : List D) (G : Hp) (B : Bas), Sub G B.hp ∧ Sub B.hp H ∧ ds.length = n ∧
  (∀ i d, ds[i]? = some d → i ∉ bs → ∃ v, vs[i]? = some v ∧ Rep K G d v) ∧
  (∀ i d, ds[i]? = some d → i ∈ bs → ∃ a, B.pin i = some a ∧ vs[i]? = some (.ref a) ∧ B.hp a = none ∧ OwnC K H G d a) ∧
  (∀ i, i ∉ bs → B.pin i = none) ∧ (∀ i j a, B.pin i = some a → B.pin j = some a → i = j) ∧
  match F ds with
  | .ok (r, cs) => ∀ H' G', Ext B.hp G H' G' → (∀ (k i : Nat) c, bs[k]? = some i → cs[k]? = some c → ∃ a, B.pin i = some a ∧ B.hp a = none ∧ G' a = none ∧ OwnC K H' G' c a) → ∀ v, Rep K G' r v → Q v H'
  | .exc c fs => ∀ cls o H', Sub B.hp H' → IsExc K mg c fs cls o H' → E cls o H'
  | .bad => False
structure CallOkM (P : Program) (w : World) (K : PySem.W.Frag) (mg : Str → Option Value) (base : Heap) (k : Nat) (x : Str) (ps : List Str) (bs : List Nat) (F : List D → Res (D × List D)) : Prop where
  ok : ∃ f fd, mg x = some (.ref f) ∧ PySem.W.keepIn K (.ref f) = true ∧ Binds K fd ps [] ∧ FnOk P w K mg base (L2.CX P w) k f fd ps (spM K mg ps.length bs F)
theorem CallOkM.up {P : Program} {w : World} {K : PySem.W.Frag} {mg : Str → Option Value} {base : Heap} {j k : Nat} {x : Str} {ps : List Str} {bs : List Nat} {F : List D → Res (D × List D)} (h : CallOkM P w K mg base j x ps bs F) (hjk : j ≤ k) : CallOkM P w K mg base k x ps bs F :=
  let ⟨f, fd, h1, h2, h3, h4⟩ := h.ok
  ⟨f, fd, h1, h2, h3, h4.mono hjk⟩
/-- the names at the start, those at bs lent -/
def envMa (bs : List Nat) : Nat → List D → Env
  | _, [] => []
  | k, d :: r => some (d, bs.elem k) :: envMa bs (k + 1) r
end DL

/-! calls of such defs: what is written, some of it lent -/
namespace DL
open PySem PySem.Spec PyProof.Rows L2
/-- what is handed over: a value, the list or dict of a name of one's own, a new list or dict -/
inductive MA where
  | val (d : D)
  | own (i : Nat)
  | new (d : D)
def RelM (K : PySem.W.Frag) (H G : Hp) (σ : L2.St) : List MA → List V → Prop
  | [], vs => vs = []
  | .val d :: r, vs => ∃ v l, vs = v :: l ∧ Rep K G d v ∧ RelM K H G σ r l
  | .own i :: r, vs => ∃ v l, vs = v :: l ∧ σ[i]? = some (some v) ∧ RelM K H G σ r l
  | .new d :: r, vs => ∃ a l, vs = .ref a :: l ∧ G a = none ∧ OwnC K H G d a ∧ RelM K H G σ r l
section
variable (K : PySem.W.Frag) (mg : Str → Option Value) (W : WX) (A : Nat → Prop)
end
section
variable {X : Cx} {W : WX} {A : Nat → Prop} {a : Expr} {es : List Expr} {H0 : Bas} {G0 : Hp} {al : List Nat} {pos p : Pos}
end
end DL

/-! the call itself -/
namespace DL
open PySem PySem.Spec PyProof.Rows L2
theorem RelM.length {K : PySem.W.Frag} {H G : Hp} {σ : L2.St} : ∀ {l : List MA} {vs : List V}, RelM K H G σ l vs → vs.length = l.length
  | [], _, h => by rw [show _ = [] from h]; rfl
  | .val _ :: _, _, ⟨v, r, e, _, h⟩ => by rw [e, List.length_cons, List.length_cons, RelM.length h]
  | .own _ :: _, _, ⟨v, r, e, _, h⟩ => by rw [e, List.length_cons, List.length_cons, RelM.length h]
  | .new _ :: _, _, ⟨v, r, e, _, _, h⟩ => by rw [e, List.length_cons, List.length_cons, RelM.length h]
/-- what is so of a thing handed over -/
def AtM (K : PySem.W.Frag) (H G : Hp) (σ : L2.St) : MA → V → Prop
  | .val d, v => Rep K G d v
  | .own i, v => σ[i]? = some (some v)
  | .new d, v => ∃ a, v = .ref a ∧ G a = none ∧ OwnC K H G d a
theorem RelM.at {K : PySem.W.Frag} {H G : Hp} {σ : L2.St} : ∀ {l : List MA} {vs : List V} {k : Nat} {z : MA}, RelM K H G σ l vs → l[k]? = some z → ∃ v, vs[k]? = some v ∧ AtM K H G σ z v
  | .val d :: _, _, 0, _, ⟨v, r, e, h1, _⟩, h => by cases h; exact ⟨v, by rw [e]; rfl, h1⟩
  | .own i :: _, _, 0, _, ⟨v, r, e, h1, _⟩, h => by cases h; exact ⟨v, by rw [e]; rfl, h1⟩
  | .new i :: _, _, 0, _, ⟨v, r, e, h1, h2, _⟩, h => by cases h; exact ⟨.ref v, by rw [e]; rfl, v, rfl, h1, h2⟩
  | .val _ :: l, _, k + 1, z, ⟨v, r, e, _, h2⟩, h => by
    obtain ⟨w, h3, h4⟩ := RelM.at (k := k) (z := z) h2 (by simpa using h)
    exact ⟨w, by rw [e]; simpa using h3, h4⟩
  | .own _ :: l, _, k + 1, z, ⟨v, r, e, _, h2⟩, h => by
    obtain ⟨w, h3, h4⟩ := RelM.at (k := k) (z := z) h2 (by simpa using h)
    exact ⟨w, by rw [e]; simpa using h3, h4⟩
  | .new _ :: l, _, k + 1, z, ⟨v, r, e, _, _, h2⟩, h => by
    obtain ⟨w, h3, h4⟩ := RelM.at (k := k) (z := z) h2 (by simpa using h)
    exact ⟨w, by rw [e]; simpa using h3, h4⟩
section
variable {K : PySem.W.Frag} {H0 : Bas} {G0 H G : Hp} {σ : L2.St}
end
end DL

/-! statements that call a def that is lent lists and dicts -/
namespace DL
open PySem PySem.Spec PyProof.Rows L2
section
variable {X : Cx} {W : WX} {H0 : Bas} {G0 : Hp} {al : List Nat} {pos : Pos}
end
end DL

/-! defs that are lent things and call themselves; a, b = f(..) of such a def -/
namespace DL
open PySem PySem.Spec PyProof.Rows L2
section
variable {X : Cx} {W : WX} {H0 : Bas} {G0 : Hp} {al : List Nat} {pos : Pos}
end
end DL

/-! d.update(e) of dicts with number or text keys; statements that are never reached -/
namespace DL
open PySem PySem.Spec PyProof.Rows L2
section
variable {X : Cx}
end
section
variable {X : Cx} {W : WX} {H0 : Bas} {G0 : Hp} {al : List Nat} {ex : Expr} {es : List Expr} {pos apos cpos p1 p2 : Pos}
end
end DL

/-! a text walked, sign by sign -/
namespace DL
open PySem PySem.Spec PyProof.Rows L2
def signs (x : Str) : List D := x.cps.toList.map fun c => D.str ⟨#[c]⟩
section
variable {X : Cx} {W : WX} {A : Nat → Prop} {ex : Expr}
theorem walk_str {K : PySem.W.Frag} {B G : Hp} {x : Str} : WalkOf K (Its x) (signs x) B G where
  go := fun H i h hi => by
    show i < x.cps.size
    simpa [signs] using hi
  stop := fun H h => by
    show x.cps.size ≤ (signs x).length
    simp [signs]
  yld := fun H G2 i y H' h g g2 hi z => by
    obtain ⟨e, c, h1, e2⟩ := z
    subst e
    subst e2
    exact ⟨.str ⟨#[c]⟩, G2, by simp [signs, h1], Ext.refl g2, rfl⟩
end
/-! a list, a tuple or a text -/
noncomputable def iAny (f : DL.Env → Res D) : DL.Env → Res (List D) := fun e => (f e).bind fun d => match d with
  | .lst xs => .ok xs
  | .tup xs => .ok xs
  | .con xs => .ok xs
  | .str x => .ok (signs x)
  | _ => .bad
def iAnyT (K : PySem.W.Frag) (te : TE) : TI := fun σ H R => te σ H fun x H1 => (∃ a, x = .ref a ∧ (((∃ xs, SqL K H1 a xs) ∧ R (Itl K a) H1) ∨ ((∃ xs, SqT K H1 a xs) ∧ R (Itt K a) H1))) ∨ ∃ y, x = .str y ∧ R (Its y) H1
section
variable {X : Cx} {W : WX} {A : Nat → Prop} {ex : Expr}
theorem pi_any {tg l : Expr} {tl : TE} (hl : PE X l tl) : PI X tg l (iAnyT X.K tl) := by
  refine ⟨fun pins s σ H R I h => ?_⟩
  refine thn (hl.run pins s σ H _ I h) fun v s1 ⟨x, H1, I1, r1, q1⟩ => ?_
  rcases q1 with ⟨a, e, q⟩ | ⟨y, e, q⟩
  · subst e
    cases r1
    rcases q with ⟨⟨xs, hq⟩, q⟩ | ⟨⟨xs, hq⟩, q⟩
    · obtain ⟨its, rv, p, hz⟩ := I1.list hq
      refine wpAny_pyIter_list p.isList ?_
      refine ⟨s1.heap.objs.size, [s1.heap.objs.size], _, _, H1, rfl, I1.kept (t' := s1.toks) fun b o e => Heap.get?_push_of_some _ e, turn_list a _, ⟨_, Heap.get?_push_size _ rfl, rfl, rfl⟩, fun b hb => ?_, q⟩
      have e : b = s1.heap.objs.size := by simpa using hb
      subst e
      exact I1.fpOk (Nat.le_refl _) (I1.hok.fresh (Nat.le_refl _))
    · obtain ⟨its, rv, p, hz⟩ := I1.tuple hq
      refine wpAny_pyIter_tuple (show s1.heap.IsTuple a its.toArray from p) ?_
      refine ⟨s1.heap.objs.size, [s1.heap.objs.size], _, _, H1, rfl, I1.kept (t' := s1.toks) fun b o e => Heap.get?_push_of_some _ e, turn_tuple a _, ⟨_, Heap.get?_push_size _ rfl, rfl, rfl⟩, fun b hb => ?_, q⟩
      have e : b = s1.heap.objs.size := by simpa using hb
      subst e
      exact I1.fpOk (Nat.le_refl _) (I1.hok.fresh (Nat.le_refl _))
  · subst e
    obtain ⟨t, rfl⟩ := r1
    cases ha : y.cps.all (· < 128)
    · exact wpAny_pyIter_wide ha (pi_one (tk := s1.toks) I1 _ (turn_str _ y t "str_iterator" (.inr rfl)) ⟨_, Heap.get?_push_size _ rfl, rfl, rfl⟩ q)
    · exact wpAny_pyIter_ascii ha (pi_one (tk := s1.toks) I1 _ (turn_str _ y t "str_ascii_iterator" (.inl rfl)) ⟨_, Heap.get?_push_size _ rfl, rfl, rfl⟩ q)
theorem di_any {tg : Expr} {f : DL.Env → Res D} (h : DE X W A ex f) : DI X W A tg ex (iAny f) :=
  (pi_any h).imp fun σ H Q ⟨e, G, E, p⟩ => ⟨e, G, E, p.split.imp fun d H1 G1 x1 p1 v rv => by
    cases d with
    | lst xs =>
      obtain ⟨a, vs, rfl, s, r⟩ := rv
      exact .inl ⟨a, rfl, .inl ⟨⟨vs, x1.gh.sql s⟩, PostG.here (a := xs) p1 x1.gh _ (walk_list s r)⟩⟩
    | tup xs =>
      obtain ⟨a, vs, rfl, s, r⟩ := rv
      exact .inl ⟨a, rfl, .inr ⟨⟨vs, x1.gh.pt s⟩, PostG.here (a := xs) p1 x1.gh _ (walk_tup (SqT.of s) r)⟩⟩
    | con xs =>
      obtain ⟨a, vs, rfl, s, r⟩ := rv
      exact .inl ⟨a, rfl, .inr ⟨⟨vs, x1.gh.sqt s⟩, PostG.here (a := xs) p1 x1.gh _ (walk_tup s r)⟩⟩
    | str x => exact .inr ⟨x, rv, PostG.here (a := signs x) p1 x1.gh _ walk_str⟩
    | _ => exact (show False from p1).elim⟩
end
end DL

namespace DL
open PySem PySem.Spec PyProof.Rows L2
open PySem.Builtin.Int (intBits)

/-- a bound that range takes -/
def Rg (n : Int) : Prop := -(2 ^ 62) ≤ n ∧ n < 2 ^ 62
theorem Rg.of {n : Int} (h : -1000000000 ≤ n) (k : n ≤ 1000000000) : Rg n := ⟨by omega, by omega⟩
open Classical in
noncomputable def range1D : D → Res (List D) := fun d => match d with
  | .int n => if Rg n then .ok (rangeD 0 n) else .bad
  | _ => .bad
open Classical in
noncomputable def range2D : D → D → Res (List D) := fun d d2 => match d, d2 with
  | .int m, .int n => if Rg m ∧ Rg n then .ok (rangeD m n) else .bad
  | _, _ => .bad
@[simp] theorem range1D_int (n : Int) (h : Rg n) : range1D (.int n) = .ok (rangeD 0 n) := if_pos h
@[simp] theorem range2D_int (m n : Int) (h : Rg m) (k : Rg n) : range2D (.int m) (.int n) = .ok (rangeD m n) := if_pos ⟨h, k⟩
theorem iRange1_is (f : DL.Env → Res D) (e : DL.Env) : iRange1 f e = (f e).bind range1D := by
  unfold iRange1
  congr 1
  funext d
  cases d with
  | int n =>
    dsimp only [range1D]
    by_cases h : Rg n
    · rw [if_pos (show -(2 ^ 62) ≤ n ∧ n < 2 ^ 62 from h), if_pos h]
    · rw [if_neg (show ¬ (-(2 ^ 62) ≤ n ∧ n < 2 ^ 62) from h), if_neg h]
  | _ => rfl
theorem iRange2_is (f g : DL.Env → Res D) (e : DL.Env) : iRange2 f g e = (f e).bind fun d => (g e).bind fun d2 => range2D d d2 := by
  unfold iRange2
  congr 1
  funext d
  congr 1
  funext d2
  cases d with
  | int m =>
    cases d2 with
    | int n =>
      dsimp only [range2D]
      by_cases h : Rg m ∧ Rg n
      · rw [if_pos h, if_pos ⟨h.1.1, h.1.2, h.2.1, h.2.2⟩]
      · rw [if_neg h, if_neg fun z => h ⟨⟨z.1, z.2.1⟩, z.2.2.1, z.2.2.2⟩]
    | _ => rfl
  | _ => rfl
/-! ### a body's reckoning, step by step -/
section
variable (al : List Nat) (i : Nat) (e : DL.Env) (f fa fb fc : DL.Env → Res D) (ft fu : DL.Env → Res Bool) (g h : DL.Env → Out) (fs : DL.Env → Res (List D)) (d : D) (ds : List D) (op : D → D → Res D) (op1 : D → Res D)
@[simp] theorem eVarS_app : eVarS i e = (match e[i]? with | some (some (d, false)) => .ok d | _ => .bad) := Eq.trans rfl rfl
@[simp] theorem eVar_app : eVar i e = (match e[i]? with | some (some (d, _)) => .ok d | _ => .bad) := Eq.trans rfl rfl
@[simp] theorem eC_app : eC d e = .ok d := Eq.trans rfl rfl
@[simp] theorem eOp_app : eOp op fa fb e = (fa e).bind fun x => (fb e).bind fun y => op x y := Eq.trans rfl rfl
@[simp] theorem e1_app : e1 op1 f e = (f e).bind op1 := Eq.trans rfl rfl
@[simp] theorem eNeg_app : eNeg f e = (f e).bind fun x => (match x with | .int i => .ok (.int (-i)) | _ => .bad) := Eq.trans rfl rfl
@[simp] theorem eTup_app : eTup fs e = (fs e).bind fun ds => .ok (.tup ds) := Eq.trans rfl rfl
@[simp] theorem eLst_app : eLst fs e = (fs e).bind fun ds => .ok (.lst ds) := Eq.trans rfl rfl
@[simp] theorem aNil_app : aNil e = .ok [] := Eq.trans rfl rfl
@[simp] theorem aCons_app : aCons f fs e = (f e).bind fun d => (fs e).bind fun ds => .ok (d :: ds) := Eq.trans rfl rfl
@[simp] theorem eCall_app (F : List D → Res D) : eCall F fs e = (fs e).bind F := Eq.trans rfl rfl
@[simp] theorem eAnd_app : eAnd fa fb e = (fa e).bind fun x => (D.asB x).bind fun b => if b = true then fb e else .ok (.bl false) := Eq.trans rfl rfl
@[simp] theorem eOr_app : eOr fa fb e = (fa e).bind fun x => (D.asB x).bind fun b => if b = true then .ok (.bl true) else fb e := Eq.trans rfl rfl
@[simp] theorem eNot_app : eNot f e = (f e).bind fun x => (D.asB x).bind fun b => .ok (.bl (!b)) := Eq.trans rfl rfl
@[simp] theorem eIf_app : eIf ft fa fb e = (ft e).bind fun b => if b = true then fa e else fb e := Eq.trans rfl rfl
@[simp] theorem bTest_app : bTest op fa fb e = (fa e).bind fun x => (fb e).bind fun y => (op x y).bind D.asB := Eq.trans rfl rfl
@[simp] theorem bTruth_app : bTruth f e = (f e).bind D.truth := Eq.trans rfl rfl
@[simp] theorem bAnd_app : bAnd ft fu e = (ft e).bind fun b => if b = true then fu e else .ok false := Eq.trans rfl rfl
@[simp] theorem bOr_app : bOr ft fu e = (ft e).bind fun b => if b = true then .ok true else fu e := Eq.trans rfl rfl
@[simp] theorem bNot_app : bNot ft e = (ft e).bind fun b => .ok (!b) := Eq.trans rfl rfl
@[simp] theorem bVal_app : bVal f e = (f e).bind D.asB := Eq.trans rfl rfl
@[simp] theorem oNone_app : oNone e = .ok none := Eq.trans rfl rfl
@[simp] theorem oSome_app : oSome f e = (f e).bind fun d => (match d with | .int i => .ok (some i) | _ => .bad) := Eq.trans rfl rfl
@[simp] theorem eCut_app (fl fh : DL.Env → Res (Option Int)) : eCut f fl fh e = (f e).bind fun d => (fl e).bind fun lo => (fh e).bind fun hi => dCut lo hi d := Eq.trans rfl rfl
@[simp] theorem iSeq_app : iSeq f e = (f e).bind fun d => (match d with | .lst xs => .ok xs | .tup xs => .ok xs | .con xs => .ok xs | _ => .bad) := Eq.trans rfl rfl
@[simp] theorem iRange1_app : iRange1 f e = (f e).bind range1D := iRange1_is f e
@[simp] theorem iRange2_app : iRange2 fa fb e = (fa e).bind fun d => (fb e).bind fun d2 => range2D d d2 := iRange2_is fa fb e
@[simp] theorem iRange3_app : iRange3 fa fb fc e = (fa e).bind fun x => (fb e).bind fun y => (fc e).bind fun z => r3D x y z := Eq.trans rfl rfl
@[simp] theorem r3D_int (i j c : Int) : r3D (.int i) (.int j) (.int c) = rg3 i j c := Eq.trans rfl rfl
@[simp] theorem sTry_app (hh : String → Option Bool) : sTry hh g h e = (match g e with | .ex c fs' e' => (match hh c with | some true => noEx (h e') | some false => .ex c fs' e' | none => .bad) | r => r) := Eq.trans rfl rfl
@[simp] theorem sTryAs_app (hh : String → Option Bool) (fs : Addr → String → DL.Env → Out) : sTryAs i hh g fs e = (match g e with | .ex c fs' e' => (match hh c with | some true => if fs' = [] then unif (fun a => clrN i (fs a c (e'.set i (some (.obj (.ref a), false))))) else .bad | some false => .ex c fs' e' | none => .bad) | r => r) := Eq.trans rfl rfl
@[simp] theorem clrN_nx : clrN i (.nx e) = .nx (e.set i none) := Eq.trans rfl rfl
@[simp] theorem clrN_rt : clrN i (.rt d) = .rt d := Eq.trans rfl rfl
@[simp] theorem clrN_ro : clrN i (.ro d) = .ro d := Eq.trans rfl rfl
@[simp] theorem unif_const (r : Out) : (unif fun _ => r) = r := unif_of fun _ => rfl
@[simp] theorem eIsE_app (a : Addr) (o : Option Bool) : eIsE i a o e = (match e[i]? with | some (some (.obj (.ref a'), false)) => if a' = a then (match o with | some b => .ok (.bl b) | none => .bad) else .bad | _ => .bad) := Eq.trans rfl rfl
@[simp] theorem dStr_bl (b : Bool) : dStr (.bl b) = .ok (.str (if b = true then "True" else "False")) := Eq.trans rfl rfl
@[simp] theorem noEx_nx : noEx (.nx e) = .nx e := Eq.trans rfl rfl
@[simp] theorem noEx_rt : noEx (.rt d) = .rt d := Eq.trans rfl rfl
@[simp] theorem noEx_ro : noEx (.ro d) = .ro d := Eq.trans rfl rfl
@[simp] theorem sRetO_app : sRetO i e = (match e[i]? with | some (some (d, true)) => .ro d | some (some (d, false)) => .rt d | _ => .bad) := Eq.trans rfl rfl
@[simp] theorem sRetF_app : sRetF al f e = (match f e with | .ok d => .ro d | .exc c fs => .ex c fs (fz al e) | .bad => .bad) := by unfold sRetF sE; cases f e <;> rfl
@[simp] theorem sSkip_app : sSkip e = .nx e := Eq.trans rfl rfl
@[simp] theorem sBreak_app : sBreak e = .bk e := Eq.trans rfl rfl
@[simp] theorem sCont_app : sCont e = .ct e := Eq.trans rfl rfl
@[simp] theorem sRetN_app : sRetN e = .rt .non := Eq.trans rfl rfl
@[simp] theorem sRaise_app (c : String) : sRaise c e = .ex c [] e := Eq.trans rfl rfl
@[simp] theorem sSeq_app : sSeq g h e = (match g e with | .nx e' => h e' | r => r) := Eq.trans rfl rfl
@[simp] theorem sIf_app : sIf al ft g h e = (match ft e with | .ok b => if b = true then g (fz al e) else h (fz al e) | .exc c fs => .ex c fs (fz al e) | .bad => .bad) := by unfold sIf sE; cases ft e <;> rfl
@[simp] theorem sRet_app : sRet al f e = (match f e with | .ok d => .rt d | .exc c fs => .ex c fs (fz al e) | .bad => .bad) := by unfold sRet sE; cases f e <;> rfl
@[simp] theorem sDrop_app : sDrop al f e = (match f e with | .ok d => .nx (fz al e) | .exc c fs => .ex c fs (fz al e) | .bad => .bad) := by unfold sDrop sE; cases f e <;> rfl
@[simp] theorem sSet_app : sSet al i f e = (match f e with | .ok d => .nx ((fz al e).set i (some (d, false))) | .exc c fs => .ex c fs (fz al e) | .bad => .bad) := by unfold sSet sE; cases f e <;> rfl
@[simp] theorem sSetF_app : sSetF al i f e = (match f e with | .ok d => .nx ((fz al e).set i (some (d, true))) | .exc c fs => .ex c fs (fz al e) | .bad => .bad) := by unfold sSetF sE; cases f e <;> rfl
@[simp] theorem sAsg_app (p : Pat) : sAsg al p f e = (match f e with | .ok d => (match p.bind d (fz al e) with | .ok e' => .nx e' | _ => .bad) | .exc c fs => .ex c fs (fz al e) | .bad => .bad) := by unfold sAsg sE; cases f e <;> rfl
@[simp] theorem sPar_app (j : Nat) : sPar al i j fs e = (match fs e with | .ok ds => (match ds with | [x, y] => .nx (((fz al e).set i (some (x, false))).set j (some (y, false))) | _ => .bad) | .exc c fs => .ex c fs (fz al e) | .bad => .bad) := by unfold sPar sE; cases fs e <;> rfl
@[simp] theorem sFor_app (p : Pat) : sFor al p fs g e = (match fs e with | .ok ds => turns p g ds (fz al e) | .exc c fs => .ex c fs (fz al e) | .bad => .bad) := by unfold sFor sE; cases fs e <;> rfl
@[simp] theorem fz_cons (r : List Nat) : fz (i :: r) e = fz r (unown i e) := Eq.trans rfl rfl
@[simp] theorem unown_app : unown i e = (match e[i]? with | some (some (d, true)) => e.set i (some (d, false)) | _ => e) := Eq.trans rfl rfl
@[simp] theorem bindnm_app : Pat.bind (.nm i) d e = .ok (e.set i (some (d, false))) := Eq.trans rfl rfl
@[simp] theorem bindtp_app (ps : List Pat) : Pat.bind (.tp ps) (.tup ds) e = Pat.binds ps ds e := Eq.trans rfl rfl
@[simp] theorem binds_nil : Pat.binds [] [] e = .ok e := Eq.trans rfl rfl
@[simp] theorem binds_cons (p : Pat) (ps : List Pat) : Pat.binds (p :: ps) (d :: ds) e = (Pat.bind p d e).bind fun e' => Pat.binds ps ds e' := Eq.trans rfl rfl
@[simp] theorem asB_bl (b : Bool) : D.asB (.bl b) = .ok b := Eq.trans rfl rfl
@[simp] theorem dLt_int (i j : Int) : dLt (.int i) (.int j) = .ok (.bl (decide (i < j))) := Eq.trans rfl rfl
@[simp] theorem dLe_int (i j : Int) : dLe (.int i) (.int j) = .ok (.bl (decide (i ≤ j))) := Eq.trans rfl rfl
@[simp] theorem dGt_int (i j : Int) : dGt (.int i) (.int j) = .ok (.bl (decide (j < i))) := Eq.trans rfl rfl
@[simp] theorem dGe_int (i j : Int) : dGe (.int i) (.int j) = .ok (.bl (decide (j ≤ i))) := Eq.trans rfl rfl
@[simp] theorem dAdd_int (i j : Int) : dAdd (.int i) (.int j) = .ok (.int (i + j)) := Eq.trans rfl rfl
@[simp] theorem dSub_int (i j : Int) : dSub (.int i) (.int j) = .ok (.int (i - j)) := Eq.trans rfl rfl
@[simp] theorem dMod_int (i j : Int) : dMod (.int i) (.int j) = (if j ≠ 0 then .ok (.int (i.fmod j)) else .bad) := Eq.trans rfl rfl
@[simp] theorem dAbs_int (i : Int) : dAbs (.int i) = .ok (.int (i.natAbs : Int)) := by
  show Res.ok (D.int (if i < 0 then -i else i)) = _
  congr 2
  split <;> omega
@[simp] theorem dLen_lst : dLen (.lst ds) = .ok (.int ds.length) := Eq.trans rfl rfl
@[simp] theorem dLen_tup : dLen (.tup ds) = .ok (.int ds.length) := Eq.trans rfl rfl
@[simp] theorem dLen_con : dLen (.con ds) = .ok (.int ds.length) := Eq.trans rfl rfl
@[simp] theorem dLen_dct (t : Bool) (kvs : List (D × D)) : dLen (.dct t kvs) = .ok (.int kvs.length) := Eq.trans rfl rfl
@[simp] theorem isInt_int (i : Int) : isInt (.int i) = .ok (.bl true) := Eq.trans rfl rfl
@[simp] theorem isBool_int (i : Int) : isBool (.int i) = .ok (.bl false) := Eq.trans rfl rfl
@[simp] theorem isTup_tup : isTup (.tup ds) = .ok (.bl true) := Eq.trans rfl rfl
@[simp] theorem dTuple_lst : dTuple (.lst ds) = .ok (.tup ds) := Eq.trans rfl rfl
@[simp] theorem dTuple_tup : dTuple (.tup ds) = .ok (.tup ds) := Eq.trans rfl rfl
@[simp] theorem dList_lst : dList (.lst ds) = .ok (.lst ds) := Eq.trans rfl rfl
@[simp] theorem dList_tup : dList (.tup ds) = .ok (.lst ds) := Eq.trans rfl rfl
@[simp] theorem dMax_int (i j : Int) : dMax (.int i) (.int j) = .ok (.int (if i < j then j else i)) := Eq.trans rfl rfl
@[simp] theorem dMin_int (i j : Int) : dMin (.int i) (.int j) = .ok (.int (if j < i then j else i)) := Eq.trans rfl rfl
@[simp] theorem sMut_app (gm : List D → List D → Option (List D)) : sMut al i gm fs e = ownL i (fz al e) (fun xs => sE al fs (fun ds e' => match gm xs ds with
    | some ys => .nx (e'.set i (some (.lst ys, true)))
    | none => .bad) e) := Eq.trans rfl rfl
end
@[simp] theorem ownL_app (i : Nat) (e : DL.Env) (k : List D → Out) : ownL i e k = (match e[i]? with | some (some (.lst xs, true)) => k xs | _ => .bad) := Eq.trans rfl rfl
@[simp] theorem sE_app {α : Type} (al : List Nat) (e : DL.Env) (fa : DL.Env → Res α) (k : α → DL.Env → Out) : sE al fa k e = (match fa e with | .ok a => k a (fz al e) | .exc c fs => .ex c fs (fz al e) | .bad => .bad) := Eq.trans rfl rfl
/-! equality -/
@[simp] theorem dEq_int (i j : Int) : dEq (.int i) (.int j) = .ok (.bl (decide (i = j))) := by
  simp [dEq, D.pl, D.beq, D.py, PyData.eqv]
  exact Bool.eq_iff_iff.mpr (by simp)
@[simp] theorem dNe_int (i j : Int) : dNe (.int i) (.int j) = .ok (.bl (!decide (i = j))) := by
  simp [dNe, D.pl, D.beq, D.py, PyData.eqv]
  exact Bool.eq_iff_iff.mpr (by simp)
@[simp] theorem dAdd_lst (a b : List D) (h : a.length + b.length ≤ sizeLine) : dAdd (.lst a) (.lst b) = .ok (.lst (a ++ b)) := if_pos h
@[simp] theorem dIx_tup0 (a : D) (r : List D) : dIx (.tup (a :: r)) (.int 0) = .ok a := by simp [dIx, atI, ixN]
@[simp] theorem dIx_tup1 (a b : D) (r : List D) : dIx (.tup (a :: b :: r)) (.int 1) = .ok b := by
  have : (1 : Int) < r.length + 1 + 1 := by omega
  simp [dIx, atI, ixN, this]
theorem ixN_of {n : Nat} {i : Int} (h : -(n : Int) ≤ i) (k : i < n) : ∃ j : Nat, ixN n i = some j ∧ j < n := by
  unfold ixN
  by_cases c : 0 ≤ i
  · exact ⟨i.toNat, by rw [if_pos c, if_pos k], by omega⟩
  · exact ⟨(i + n).toNat, by rw [if_neg c, if_pos h], by omega⟩
mutual
theorem eqv_self : ∀ (d : D) (n : Nat), d.pl n = true → PyData.eqv d.py d.py = true
  | .non, _, _ => rfl
  | .bl b, _, _ => by simp [D.py, PyData.eqv]
  | .int i, _, _ => by simp [D.py, PyData.eqv]
  | .str x, _, _ => by simp [D.py, PyData.eqv]
  | .obj _, _, h => by simp [D.pl] at h
  | .dct _ _, _, h => by simp [D.pl] at h
  | .con xs, 0, h => by simp [D.pl] at h
  | .con xs, n + 1, h => by
    simp [D.py, PyData.eqv]
    exact eqvs_self xs n (by simpa [D.pl] using h)
  | .tup xs, 0, h => by simp [D.pl] at h
  | .lst xs, 0, h => by simp [D.pl] at h
  | .tup xs, n + 1, h => by
    simp [D.py, PyData.eqv]
    exact eqvs_self xs n (by simpa [D.pl] using h)
  | .lst xs, n + 1, h => by
    simp [D.py, PyData.eqv]
    exact eqvs_self xs n (by simpa [D.pl] using h)
theorem eqvs_self : ∀ (ds : List D) (n : Nat), D.pls ds n = true → PyData.eqvAll (D.pys ds) (D.pys ds) = true
  | [], _, _ => rfl
  | d :: r, n, h => by
    have h' : d.pl n = true ∧ D.pls r n = true := by simpa [D.pls] using h
    simp [D.pys, PyData.eqvAll]
    exact ⟨eqv_self d n h'.1, eqvs_self r n h'.2⟩
end
theorem pls_all {n : Nat} : ∀ {ds : List D}, (∀ d ∈ ds, d.pl n = true) → D.pls ds n = true
  | [], _ => rfl
  | d :: r, h => by
    rw [D.pls, h d List.mem_cons_self, pls_all fun x hx => h x (List.mem_cons_of_mem _ hx)]
    rfl
/-! ### sizes -/
/-- an integer of at most so many bits -/
def Sm (n : Nat) (i : Int) : Prop := i.natAbs < 2 ^ n
theorem Sm.mono {n m : Nat} {i : Int} (h : Sm n i) (k : n ≤ m) : Sm m i := Nat.lt_of_lt_of_le h (Nat.pow_le_pow_right (by decide) k)
theorem Sm.bits {n : Nat} {i : Int} : Sm n i ↔ intBits i ≤ n := by
  unfold Sm intBits
  by_cases h : i = 0
  · subst h; simp; exact Nat.two_pow_pos n
  · have h' : (i == 0) = false := by simpa using h
    rw [h']
    have : i.natAbs ≠ 0 := by omega
    rw [← Nat.log2_lt this]
    exact Iff.rfl
theorem Sm.le {n : Nat} {i j : Int} (h : Sm n i) (k : j.natAbs ≤ i.natAbs) : Sm n j := Nat.lt_of_le_of_lt k h
theorem Sm.lg {n : Nat} {i : Int} (h : Sm n i) (k : n ≤ 8999) : i.natAbs.log2 < 9000 := by
  by_cases z : i.natAbs = 0
  · rw [z]; decide
  · rw [Nat.log2_lt z]
    exact Nat.lt_of_lt_of_le h (Nat.pow_le_pow_right (by decide) (by omega))
theorem Sm.two {n m : Nat} {i j : Int} (h : Sm n i) (k : Sm m j) (l : n + m ≤ big) : intBits i + intBits j ≤ big := Nat.le_trans (Nat.add_le_add (Sm.bits.mp h) (Sm.bits.mp k)) l
theorem dDiv_int {i j : Int} (h : j ≠ 0) (k : j.natAbs.log2 < 9000) : dDiv (.int i) (.int j) = .ok (.int (i.fdiv j)) := if_pos ⟨h, k⟩
@[simp] theorem dDiv_lit (i j : Int) (h : 0 < j) (k : j < 18446744073709551616) : dDiv (.int i) (.int j) = .ok (.int (i / j)) := by
  rw [dDiv_int (by omega) (Sm.lg (n := 64) (by unfold Sm; omega) (by decide)), Int.fdiv_eq_ediv_of_nonneg _ (by omega)]
@[simp high] theorem dMod_lit (i j : Int) (h : 0 < j) : dMod (.int i) (.int j) = .ok (.int (i % j)) := by
  rw [dMod_int, if_pos (by omega), Int.fmod_eq_emod_of_nonneg _ (by omega)]
theorem dPow_of {i j : Int} (h : 0 ≤ j ∧ (intBits i : Int) * j ≤ 2 ^ 27) : dPow (.int i) (.int j) = .ok (.int (i ^ j.toNat)) := if_pos h
@[simp] theorem pow_10_60 : dPow (.int 10) (.int 60) = .ok (.int (10 ^ 60)) := dPow_of (by decide +kernel)
@[simp] theorem pow_10_18 : dPow (.int 10) (.int 18) = .ok (.int (10 ^ 18)) := dPow_of (by decide +kernel)
@[simp] theorem pow_10_9 : dPow (.int 10) (.int 9) = .ok (.int (10 ^ 9)) := dPow_of (by decide +kernel)
@[simp] theorem pow_10_10 : dPow (.int 10) (.int 10) = .ok (.int (10 ^ 10)) := dPow_of (by decide +kernel)
/-! ### loops -/
@[simp] theorem isInt_bl (b : Bool) : isInt (.bl b) = .ok (.bl true) := Eq.trans rfl rfl
@[simp] theorem isInt_tup (ds : List D) : isInt (.tup ds) = .ok (.bl false) := Eq.trans rfl rfl
@[simp] theorem isInt_str (x : Str) : isInt (.str x) = .ok (.bl false) := Eq.trans rfl rfl
@[simp] theorem isInt_lst (ds : List D) : isInt (.lst ds) = .ok (.bl false) := Eq.trans rfl rfl
@[simp] theorem isInt_non  : isInt .non = .ok (.bl false) := Eq.trans rfl rfl
@[simp] theorem isBool_bl (b : Bool) : isBool (.bl b) = .ok (.bl true) := Eq.trans rfl rfl
@[simp] theorem isBool_tup (ds : List D) : isBool (.tup ds) = .ok (.bl false) := Eq.trans rfl rfl
@[simp] theorem isBool_str (x : Str) : isBool (.str x) = .ok (.bl false) := Eq.trans rfl rfl
@[simp] theorem isBool_lst (ds : List D) : isBool (.lst ds) = .ok (.bl false) := Eq.trans rfl rfl
@[simp] theorem isBool_non  : isBool .non = .ok (.bl false) := Eq.trans rfl rfl
@[simp] theorem isTup_int (i : Int) : isTup (.int i) = .ok (.bl false) := Eq.trans rfl rfl
@[simp] theorem isTup_bl (b : Bool) : isTup (.bl b) = .ok (.bl false) := Eq.trans rfl rfl
@[simp] theorem isTup_str (x : Str) : isTup (.str x) = .ok (.bl false) := Eq.trans rfl rfl
@[simp] theorem isTup_lst (ds : List D) : isTup (.lst ds) = .ok (.bl false) := Eq.trans rfl rfl
@[simp] theorem isTup_non  : isTup .non = .ok (.bl false) := Eq.trans rfl rfl
@[simp] theorem isStr_int (i : Int) : isStr (.int i) = .ok (.bl false) := Eq.trans rfl rfl
@[simp] theorem isStr_bl (b : Bool) : isStr (.bl b) = .ok (.bl false) := Eq.trans rfl rfl
@[simp] theorem isStr_tup (ds : List D) : isStr (.tup ds) = .ok (.bl false) := Eq.trans rfl rfl
@[simp] theorem isStr_str (x : Str) : isStr (.str x) = .ok (.bl true) := Eq.trans rfl rfl
@[simp] theorem isStr_lst (ds : List D) : isStr (.lst ds) = .ok (.bl false) := Eq.trans rfl rfl
@[simp] theorem isStr_non  : isStr .non = .ok (.bl false) := Eq.trans rfl rfl
@[simp] theorem isList_int (i : Int) : isList (.int i) = .ok (.bl false) := Eq.trans rfl rfl
@[simp] theorem isList_bl (b : Bool) : isList (.bl b) = .ok (.bl false) := Eq.trans rfl rfl
@[simp] theorem isList_tup (ds : List D) : isList (.tup ds) = .ok (.bl false) := Eq.trans rfl rfl
@[simp] theorem isList_str (x : Str) : isList (.str x) = .ok (.bl false) := Eq.trans rfl rfl
@[simp] theorem isList_lst (ds : List D) : isList (.lst ds) = .ok (.bl true) := Eq.trans rfl rfl
@[simp] theorem isList_non  : isList .non = .ok (.bl false) := Eq.trans rfl rfl
@[simp] theorem dIx_tup2 (a b c : D) (r : List D) : dIx (.tup (a :: b :: c :: r)) (.int 2) = .ok c := by
  have : (2 : Int) < r.length + 1 + 1 + 1 := by omega
  simp [dIx, atI, ixN, this]
@[simp] theorem dIx_tup3 (a b c d : D) (r : List D) : dIx (.tup (a :: b :: c :: d :: r)) (.int 3) = .ok d := by
  have : (3 : Int) < r.length + 1 + 1 + 1 + 1 := by omega
  simp [dIx, atI, ixN, this]
@[simp] theorem dEq_str (a b : Str) : dEq (.str a) (.str b) = .ok (.bl (decide (a = b))) := Eq.trans rfl rfl
@[simp] theorem dNe_str (a b : Str) : dNe (.str a) (.str b) = .ok (.bl (!decide (a = b))) := Eq.trans rfl rfl
@[simp] theorem dEq_bl (a b : Bool) : dEq (.bl a) (.bl b) = .ok (.bl (decide (a = b))) := by
  simp [dEq, D.pl, D.beq, D.py, PyData.eqv]
  cases a <;> cases b <;> rfl
@[simp] theorem dNe_bl (a b : Bool) : dNe (.bl a) (.bl b) = .ok (.bl (!decide (a = b))) := by
  simp [dNe, D.pl, D.beq, D.py, PyData.eqv]
  cases a <;> cases b <;> rfl
@[simp] theorem truth_bl (b : Bool) : D.truth (.bl b) = .ok b := Eq.trans rfl rfl
@[simp] theorem truth_int (i : Int) : D.truth (.int i) = .ok (decide (i ≠ 0)) := by
  show Res.ok (i != 0) = _
  congr 1
  exact Bool.eq_iff_iff.mpr (by simp)
end DL

namespace DL
open PySem PySem.Spec PyProof.Rows L2
open PySem.Builtin.Int (intBits)
/-! ### Euclid's loop over slots 0, 1, 2 -/
/-- the share a rational number is -/
def shr (x : Rat) : D := .tup [.int x.num, .int x.den]
end DL

namespace DL
open PySem PySem.Spec PyProof.Rows L2
open PySem.Builtin.Int (intBits)
/-! ### shares -/
@[simp] theorem shr_0 (x : Rat) : dIx (shr x) (.int 0) = .ok (.int x.num) := by simp [shr]
@[simp] theorem shr_1 (x : Rat) : dIx (shr x) (.int 1) = .ok (.int x.den) := by simp [shr]
/-- sizes of a share -/
def SmR (n m : Nat) (x : Rat) : Prop := Sm n x.num ∧ Sm m (x.den : Int)
theorem SmR.mono {n m n' m' : Nat} {x : Rat} (h : SmR n m x) (a : n ≤ n') (b : m ≤ m') : SmR n' m' x := ⟨h.1.mono a, h.2.mono b⟩
end DL

namespace DL
open PySem PySem.Spec PyProof.Rows L2
open PySem.Builtin.Int (intBits)
/-! ### powers of a pair by squarings -/
def pr (a b : Int) : D := .tup [.int a, .int b]
@[simp] theorem pr_0 (a b : Int) : dIx (pr a b) (.int 0) = .ok (.int a) := by simp [pr]
@[simp] theorem pr_1 (a b : Int) : dIx (pr a b) (.int 1) = .ok (.int b) := by simp [pr]
end DL

/-! spreads, plainly -/
namespace DL
open PySem PySem.Spec PyProof.Rows L2
open PySem.Builtin.Int (intBits)
@[simp] theorem dIxA_lst (xs : List D) (i : D) : dIxA (.lst xs) i = dIx (.lst xs) i := rfl
@[simp] theorem dIxA_tup (xs : List D) (i : D) : dIxA (.tup xs) i = dIx (.tup xs) i := rfl
@[simp] theorem dIxA_con (xs : List D) (i : D) : dIxA (.con xs) i = dIx (.con xs) i := rfl
@[simp] theorem dIxA_dct (t : Bool) (kvs : List (D × D)) (i : D) : dIxA (.dct t kvs) i = dAt (.dct t kvs) i := rfl
/-- answers: numbers only -/
def ans (k : List Int) : D := .tup (k.map D.int)
theorem ints_inj : ∀ {a b : List Int}, a.map D.int = b.map D.int → a = b
  | [], [], _ => rfl
  | [], _ :: _, h => by cases h
  | _ :: _, [], h => by cases h
  | x :: a, y :: b, h => by
    rw [List.map_cons, List.map_cons, List.cons.injEq] at h
    cases h.1
    rw [ints_inj h.2]
theorem ans_inj {a b : List Int} (h : ans a = ans b) : a = b := ints_inj (by unfold ans at h; injection h)
@[simp] theorem ans_key (k : List Int) : D.keyOk true (ans k) = true := by
  simp [ans, D.keyOk, D.isKey]
def getR (m : List (List Int × Rat)) (k : List Int) : Option Rat := (m.find? fun p => decide (p.1 = k)).map (·.2)
def putR (m : List (List Int × Rat)) (k : List Int) (x : Rat) : List (List Int × Rat) := if (m.any fun p => decide (p.1 = k)) = true then m.map (fun p => if p.1 = k then (p.1, x) else p) else m ++ [(k, x)]
/-- one more pair -/
def stepR (m : List (List Int × Rat)) (p : List Int × Rat) : List (List Int × Rat) := putR m p.1 ((getR m p.1).getD 0 + p.2)
def totR (ps : List (List Int × Rat)) (k : List Int) : Rat := ps.foldl (fun t p => if p.1 = k then t + p.2 else t) 0
theorem any_key {m : List (List Int × Rat)} {k : List Int} : (m.any fun p => decide (p.1 = k)) = true ↔ k ∈ m.map (·.1) := by
  rw [List.any_eq_true, List.mem_map]
  constructor
  · rintro ⟨p, h, e⟩; exact ⟨p, h, by simpa using e⟩
  · rintro ⟨p, h, e⟩; exact ⟨p, h, by simpa using e⟩
theorem put_keys (m : List (List Int × Rat)) (k : List Int) (x : Rat) : (putR m k x).map (·.1) = if k ∈ m.map (·.1) then m.map (·.1) else m.map (·.1) ++ [k] := by
  unfold putR
  by_cases h : k ∈ m.map (·.1)
  · rw [if_pos (any_key.mpr h), if_pos h, List.map_map]
    apply List.map_congr_left
    intro p _
    show (if p.1 = k then (p.1, x) else p).1 = p.1
    split <;> rfl
  · rw [if_neg (fun z => h (any_key.mp z)), if_neg h, List.map_append]; rfl
theorem get_some {m : List (List Int × Rat)} {k : List Int} : (getR m k).isSome = true ↔ k ∈ m.map (·.1) := by
  unfold getR
  rw [Option.isSome_map, List.find?_isSome, List.mem_map]
  constructor
  · rintro ⟨p, h, e⟩; exact ⟨p, h, by simpa using e⟩
  · rintro ⟨p, h, e⟩; exact ⟨p, h, by simpa using e⟩
theorem get_none {m : List (List Int × Rat)} {k : List Int} (h : k ∉ m.map (·.1)) : getR m k = none := by
  cases e : getR m k with
  | none => rfl
  | some x => exact absurd (get_some.mp (by rw [e]; rfl)) h
theorem put_get_self (m : List (List Int × Rat)) (k : List Int) (x : Rat) : getR (putR m k x) k = some x := by
  unfold putR
  split
  · rename_i h
    induction m with
    | nil => simp at h
    | cons p m ih =>
      unfold getR
      rw [List.map_cons, List.find?_cons]
      by_cases hp : p.1 = k
      · simp [hp]
      · simp only [if_neg hp, decide_eq_false hp]
        have h' : (m.any fun p => decide (p.1 = k)) = true := by simpa [hp] using h
        exact ih h'
  · rename_i h
    unfold getR
    rw [List.find?_append]
    have : m.find? (fun p => decide (p.1 = k)) = none := by
      cases e : m.find? (fun p => decide (p.1 = k)) with
      | none => rfl
      | some p =>
        exfalso
        apply h
        rw [List.any_eq_true]
        exact ⟨p, List.mem_of_find?_eq_some e, List.find?_some (p := fun p : List Int × Rat => decide (p.1 = k)) e⟩
    rw [this]
    simp
theorem put_get_ne {m : List (List Int × Rat)} {k j : List Int} (x : Rat) (h : j ≠ k) : getR (putR m k x) j = getR m j := by
  unfold putR
  split
  · induction m with
    | nil => rfl
    | cons p m ih =>
      unfold getR at *
      rw [List.map_cons, List.find?_cons, List.find?_cons]
      by_cases hp : p.1 = k
      · have hj : p.1 ≠ j := fun z => h (by rw [← z, hp])
        simp only [if_pos hp, decide_eq_false hj]
        rename_i hh
        by_cases h3 : (m.any fun p => decide (p.1 = k)) = true
        · exact ih h3
        · have : m.map (fun p => if p.1 = k then (p.1, x) else p) = m := by
            conv => rhs; rw [← List.map_id m]
            apply List.map_congr_left
            intro q hq
            rw [if_neg]
            · rfl
            · intro z
              apply h3
              rw [List.any_eq_true]
              exact ⟨q, hq, by simpa using z⟩
          rw [this]
      · simp only [if_neg hp]
        by_cases hj : p.1 = j
        · simp [hj]
        · simp only [decide_eq_false hj]
          rename_i hh
          exact ih (by simpa [hp] using hh)
  · unfold getR
    rw [List.find?_append]
    cases m.find? (fun p => decide (p.1 = j)) with
    | some p => rfl
    | none => simp [Ne.symm h]
/-- what the sums are after so many pairs -/
structure SumsOf (m ps : List (List Int × Rat)) : Prop where
  nd : (m.map (·.1)).Nodup
  ks : ∀ k, k ∈ m.map (·.1) ↔ k ∈ ps.map (·.1)
  gt : ∀ k, k ∈ ps.map (·.1) → getR m k = some (totR ps k)
  ln : m.length ≤ ps.length
theorem tot_snoc (ps : List (List Int × Rat)) (p : List Int × Rat) (k : List Int) : totR (ps ++ [p]) k = if p.1 = k then totR ps k + p.2 else totR ps k := by
  unfold totR
  rw [List.foldl_append]
  rfl
theorem tot_none {ps : List (List Int × Rat)} {k : List Int} (h : k ∉ ps.map (·.1)) : totR ps k = 0 := by
  unfold totR
  have gen : ∀ (ps : List (List Int × Rat)) (t : Rat), k ∉ ps.map (·.1) → ps.foldl (fun t p => if p.1 = k then t + p.2 else t) t = t := by
    intro ps
    induction ps with
    | nil => intro t _; rfl
    | cons p ps ih =>
      intro t h
      rw [List.map_cons, List.mem_cons] at h
      rw [List.foldl_cons, if_neg (fun z => h (.inl z.symm))]
      exact ih t fun z => h (.inr z)
  exact gen ps 0 h
theorem SumsOf.step {m ps : List (List Int × Rat)} (S : SumsOf m ps) (p : List Int × Rat) : SumsOf (stepR m p) (ps ++ [p]) := by
  have hk := put_keys m p.1 ((getR m p.1).getD 0 + p.2)
  have ht : (getR m p.1).getD 0 = totR ps p.1 := by
    by_cases h : p.1 ∈ ps.map (·.1)
    · rw [S.gt _ h]; rfl
    · rw [get_none (fun z => h ((S.ks _).mp z)), tot_none h]; rfl
  refine ⟨?_, fun k => ?_, fun k h => ?_, ?_⟩
  · unfold stepR
    rw [hk]
    split
    · exact S.nd
    · rename_i h
      rw [List.nodup_append]
      refine ⟨S.nd, by simp, ?_⟩
      intro a ha b hb
      rw [List.mem_singleton] at hb
      subst hb
      intro e
      subst e
      exact h ha
  · unfold stepR
    rw [hk, List.map_append, List.mem_append, ← S.ks k]
    split
    · rename_i h
      constructor
      · exact .inl
      · rintro (z | z)
        · exact z
        · rw [show k = p.1 by simpa using z]; exact h
    · rw [List.mem_append]; rfl
  · rw [tot_snoc]
    unfold stepR
    by_cases e : p.1 = k
    · subst e
      rw [put_get_self, ht, if_pos rfl]
    · rw [put_get_ne _ (Ne.symm e), if_neg e]
      rw [List.map_append, List.mem_append] at h
      rcases h with z | z
      · exact S.gt _ z
      · exact absurd (by simpa using z : k = p.1).symm e
  · have := congrArg List.length hk
    rw [List.length_map] at this
    unfold stepR
    rw [this, List.length_append]
    have l := S.ln
    split
    · rw [List.length_map]; simp; omega
    · rw [List.length_append, List.length_map]; simp; omega
theorem SumsOf.nil : SumsOf [] [] := ⟨List.nodup_nil, fun k => Iff.rfl, fun k h => absurd h List.not_mem_nil, Nat.le_refl _⟩
theorem SumsOf.all : ∀ (qs : List (List Int × Rat)) {m ps : List (List Int × Rat)}, SumsOf m ps → SumsOf (qs.foldl stepR m) (ps ++ qs)
  | [], m, ps, S => by rw [List.append_nil]; exact S
  | q :: qs, m, ps, S => by
    have := SumsOf.all qs (S.step q)
    rw [List.append_assoc] at this
    exact this
/-! ### order of answers -/
theorem ints_pl (n : Nat) (k : List Int) : D.pls (k.map D.int) n = true := pls_all fun d hd => by
  obtain ⟨i, _, rfl⟩ := List.mem_map.mp hd
  rfl
theorem ans_pl (k : List Int) (n : Nat) : (ans k).pl (n + 1) = true := ints_pl n k
/-! ### comprehensions -/
theorem comp_filter {e : DL.Env} {p : Pat} {ft : DL.Env → Res Bool} {fe : DL.Env → Res D} (b : D → Bool) (g : D → D) : ∀ {ds : List D}, (∀ d ∈ ds, ∃ e1, p.bind d e = .ok e1 ∧ ft e1 = .ok (b d) ∧ (b d = true → fe e1 = .ok (g d))) → compL e p ft fe ds = .ok ((ds.filter b).map g)
  | [], _ => rfl
  | d :: ds, h => by
    obtain ⟨e1, h1, h2, h3⟩ := h d List.mem_cons_self
    have ih := comp_filter b g (ds := ds) fun x hx => h x (List.mem_cons_of_mem _ hx)
    unfold compL
    rw [h1]
    dsimp only
    rw [h2]
    cases hb : b d with
    | true =>
      dsimp only
      rw [h3 hb]
      dsimp only
      rw [ih, List.filter_cons, if_pos hb]
      rfl
    | false =>
      dsimp only
      rw [ih, List.filter_cons, if_neg (by rw [hb]; decide)]
theorem comp_all {e : DL.Env} {p : Pat} {ft : DL.Env → Res Bool} {fe : DL.Env → Res D} (g : D → D) {ds : List D} (h : ∀ d ∈ ds, ∃ e1, p.bind d e = .ok e1 ∧ ft e1 = .ok true ∧ fe e1 = .ok (g d)) : compL e p ft fe ds = .ok (ds.map g) := by
  have := comp_filter (e := e) (p := p) (ft := ft) (fe := fe) (fun _ => true) g (ds := ds) fun d hd => by
    obtain ⟨e1, a, b, c⟩ := h d hd
    exact ⟨e1, a, b, fun _ => c⟩
  rw [this, List.filter_eq_self.mpr (fun _ _ => rfl)]
/-! ### spreads -/
def spPairD (p : List Int × Rat) : D := .tup [ans p.1, shr p.2]
/-! ### dicts, step by step -/
@[simp] theorem ownD_app (i : Nat) (e : DL.Env) (k : Bool → List (D × D) → Out) : ownD i e k = (match e[i]? with | some (some (.dct t kvs, true)) => k t kvs | _ => .bad) := Eq.trans rfl rfl
@[simp] theorem sPutD_app (al : List Nat) (i : Nat) (fk fv : DL.Env → Res D) (e : DL.Env) : sPutD al i fk fv e = ownD i (fz al e) fun t kvs => sE al (fun e => (fv e).bind fun v => (fk e).bind fun k => .ok (k, v)) (fun kv e' =>
  if D.keyOk t kv.1 = true ∧ kvs.length < sizeLine then .nx (e'.set i (some (.dct t (dSet kvs kv.1 kv.2), true))) else .bad) e := Eq.trans rfl rfl
@[simp] theorem eGet2_app (fa fb fc : DL.Env → Res D) (e : DL.Env) : eGet2 fa fb fc e = (fa e).bind fun d => match d with
  | .dct t kvs => (fb e).bind fun k => (fc e).bind fun x => dGet2 (.dct t kvs) k x
  | _ => .bad := Eq.trans rfl rfl
@[simp] theorem eDNew_app (t : Bool) (e : DL.Env) : eDNew t e = .ok (.dct t []) := Eq.trans rfl rfl
/-! ### falling shares come to one -/
@[simp] theorem sPutL_app (al : List Nat) (i : Nat) (fk fv : DL.Env → Res D) (e : DL.Env) : sPutL al i fk fv e = ownL i (fz al e) fun xs => sE al (fun e => (fv e).bind fun v => (fk e).bind fun k => .ok (k, v)) (fun kv e' => match kv.1 with
  | .int k => match ixN xs.length k with
    | some j => .nx (e'.set i (some (.lst (xs.set j kv.2), true)))
    | none => .bad
  | _ => .bad) e := Eq.trans rfl rfl
@[simp] theorem bind_sp (ps : List Pat) (p : List Int × Rat) (e : DL.Env) : Pat.bind (.tp ps) (spPairD p) e = Pat.binds ps [ans p.1, shr p.2] e := Eq.trans rfl rfl
@[simp] theorem sp_0 (p : List Int × Rat) : dIx (spPairD p) (.int 0) = .ok (ans p.1) := dIx_tup0 _ _
@[simp] theorem sp_1 (p : List Int × Rat) : dIx (spPairD p) (.int 1) = .ok (shr p.2) := dIx_tup1 _ _ _
@[simp] theorem ans_0 (a : Int) (r : List Int) : dIx (ans (a :: r)) (.int 0) = .ok (.int a) := dIx_tup0 _ _
theorem ints_of : ∀ ns : List Int, D.ints (ns.map D.int) = some ns
  | [] => rfl
  | n :: r => by show (D.ints (r.map D.int)).map _ = _; rw [ints_of r]; rfl
@[simp] theorem dSum_ints (ns : List Int) : dSum (.lst (ns.map D.int)) = .ok (.int ns.sum) := by
  show (match D.ints (ns.map D.int) with | some ns => Res.ok (D.int ns.sum) | none => .bad) = _
  rw [ints_of]
/-- places and numbers -/
def natL (ws : List Nat) : List D := ws.map fun (w : Nat) => D.int (w : Int)
theorem natL_ints (ws : List Nat) : natL ws = (ws.map fun (w : Nat) => (w : Int)).map D.int := by
  unfold natL
  rw [List.map_map]; rfl
theorem nat_sum : ∀ ws : List Nat, (ws.map fun (w : Nat) => (w : Int)).sum = ((ws.sum : Nat) : Int)
  | [] => rfl
  | w :: r => by rw [List.map_cons, List.sum_cons, List.sum_cons, nat_sum r, Int.natCast_add]
@[simp] theorem dSum_nats (ws : List Nat) : dSum (.lst (natL ws)) = .ok (.int (ws.sum : Nat)) := by
  rw [natL_ints, dSum_ints, nat_sum]
end DL

/-! dicts of any keys, plainly -/
namespace DL
open PySem PySem.Spec PyProof.Rows L2
open PySem.Builtin.Int (intBits)
section
variable {α β : Type} [DecidableEq α] {f : α → D} {g : β → D}
def getG (m : List (α × β)) (k : α) : Option β := (m.find? fun p => decide (p.1 = k)).map (·.2)
def putG (m : List (α × β)) (k : α) (x : β) : List (α × β) := if (m.any fun p => decide (p.1 = k)) = true then m.map (fun p => if p.1 = k then (p.1, x) else p) else m ++ [(k, x)]
theorem any_keyG {m : List (α × β)} {k : α} : (m.any fun p => decide (p.1 = k)) = true ↔ k ∈ m.map (·.1) := by
  rw [List.any_eq_true, List.mem_map]
  constructor
  · rintro ⟨p, h, e⟩; exact ⟨p, h, by simpa using e⟩
  · rintro ⟨p, h, e⟩; exact ⟨p, h, by simpa using e⟩
theorem put_keysG (m : List (α × β)) (k : α) (x : β) : (putG m k x).map (·.1) = if k ∈ m.map (·.1) then m.map (·.1) else m.map (·.1) ++ [k] := by
  unfold putG
  by_cases h : k ∈ m.map (·.1)
  · rw [if_pos (any_keyG.mpr h), if_pos h, List.map_map]
    apply List.map_congr_left
    intro p _
    show (if p.1 = k then (p.1, x) else p).1 = p.1
    split <;> rfl
  · rw [if_neg (fun z => h (any_keyG.mp z)), if_neg h, List.map_append]; rfl
theorem get_someG {m : List (α × β)} {k : α} : (getG m k).isSome = true ↔ k ∈ m.map (·.1) := by
  unfold getG
  rw [Option.isSome_map, List.find?_isSome, List.mem_map]
  constructor
  · rintro ⟨p, h, e⟩; exact ⟨p, h, by simpa using e⟩
  · rintro ⟨p, h, e⟩; exact ⟨p, h, by simpa using e⟩
theorem put_get_selfG (m : List (α × β)) (k : α) (x : β) : getG (putG m k x) k = some x := by
  unfold putG
  split
  · rename_i h
    induction m with
    | nil => simp at h
    | cons p m ih =>
      unfold getG
      rw [List.map_cons, List.find?_cons]
      by_cases hp : p.1 = k
      · simp [hp]
      · simp only [if_neg hp, decide_eq_false hp]
        have h' : (m.any fun p => decide (p.1 = k)) = true := by simpa [hp] using h
        exact ih h'
  · rename_i h
    unfold getG
    rw [List.find?_append]
    have : m.find? (fun p => decide (p.1 = k)) = none := by
      cases e : m.find? (fun p => decide (p.1 = k)) with
      | none => rfl
      | some p =>
        exfalso
        apply h
        rw [List.any_eq_true]
        exact ⟨p, List.mem_of_find?_eq_some e, List.find?_some (p := fun p : α × β => decide (p.1 = k)) e⟩
    rw [this]
    simp
theorem put_get_neG {m : List (α × β)} {k j : α} (x : β) (h : j ≠ k) : getG (putG m k x) j = getG m j := by
  unfold putG
  split
  · induction m with
    | nil => rfl
    | cons p m ih =>
      unfold getG at *
      rw [List.map_cons, List.find?_cons, List.find?_cons]
      by_cases hp : p.1 = k
      · have hj : p.1 ≠ j := fun z => h (by rw [← z, hp])
        simp only [if_pos hp, decide_eq_false hj]
        rename_i hh
        by_cases h3 : (m.any fun p => decide (p.1 = k)) = true
        · exact ih h3
        · have : m.map (fun p => if p.1 = k then (p.1, x) else p) = m := by
            conv => rhs; rw [← List.map_id m]
            apply List.map_congr_left
            intro q hq
            rw [if_neg]
            · rfl
            · intro z
              apply h3
              rw [List.any_eq_true]
              exact ⟨q, hq, by simpa using z⟩
          rw [this]
      · simp only [if_neg hp]
        by_cases hj : p.1 = j
        · simp [hj]
        · simp only [decide_eq_false hj]
          rename_i hh
          exact ih (by simpa [hp] using hh)
  · unfold getG
    rw [List.find?_append]
    cases m.find? (fun p => decide (p.1 = j)) with
    | some p => rfl
    | none => simp [Ne.symm h]

theorem putG_len (m : List (α × β)) (k : α) (x : β) : (putG m k x).length ≤ m.length + 1 := by
  have e := congrArg List.length (put_keysG m k x)
  rw [List.length_map] at e
  rw [e]
  split
  · rw [List.length_map]; omega
  · rw [List.length_append, List.length_map]; exact Nat.le_refl _
end
/-- so many times each -/
def bumpG {α : Type} [DecidableEq α] (m : List (α × Nat)) (k : α) : List (α × Nat) := putG m k ((getG m k).getD 0 + 1)
def timesG {α : Type} [DecidableEq α] (k : α) (l : List α) : Nat := (l.filter fun x => decide (x = k)).length
structure CountsOf {α : Type} [DecidableEq α] (m : List (α × Nat)) (l : List α) : Prop where
  nd : (m.map (·.1)).Nodup
  ks : ∀ k, k ∈ m.map (·.1) ↔ k ∈ l
  gt : ∀ k, (getG m k).getD 0 = timesG k l
  sm : ∀ k, k ∈ l → getG m k = some (timesG k l)
  ln : m.length ≤ l.length
theorem CountsOf.nil {α : Type} [DecidableEq α] : CountsOf ([] : List (α × Nat)) [] := ⟨List.nodup_nil, fun k => Iff.rfl, fun k => rfl, fun k h => absurd h List.not_mem_nil, Nat.le_refl _⟩
theorem timesG_snoc {α : Type} [DecidableEq α] (k x : α) (l : List α) : timesG k (l ++ [x]) = timesG k l + if x = k then 1 else 0 := by
  unfold timesG
  rw [List.filter_append, List.length_append]
  by_cases h : x = k
  · simp [h]
  · simp [h]
theorem CountsOf.step {α : Type} [DecidableEq α] {m : List (α × Nat)} {l : List α} (S : CountsOf m l) (x : α) : CountsOf (bumpG m x) (l ++ [x]) := by
  have hk := put_keysG m x ((getG m x).getD 0 + 1)
  have g1 : ∀ k, getG (bumpG m x) k = if x = k then some (timesG k l + 1) else getG m k := fun k => by
    unfold bumpG
    by_cases e : x = k
    · subst e
      rw [put_get_selfG, if_pos rfl, S.gt]
    · rw [put_get_neG _ (Ne.symm e), if_neg e]
  refine ⟨?_, fun k => ?_, fun k => ?_, fun k h => ?_, ?_⟩
  · unfold bumpG
    rw [hk]
    split
    · exact S.nd
    · rename_i h
      rw [List.nodup_append]
      refine ⟨S.nd, by simp, ?_⟩
      intro a ha b hb
      rw [List.mem_singleton] at hb
      subst hb
      intro e
      subst e
      exact h ha
  · unfold bumpG
    rw [hk, List.mem_append, List.mem_singleton, ← S.ks k]
    split
    · rename_i h
      exact ⟨.inl, fun z => z.elim id fun e => e ▸ h⟩
    · rw [List.mem_append, List.mem_singleton]
  · rw [g1, timesG_snoc]
    split
    · rfl
    · rw [S.gt]; rfl
  · rw [g1, timesG_snoc]
    split
    · rfl
    · rename_i e
      rw [List.mem_append, List.mem_singleton] at h
      rw [S.sm k (h.resolve_right fun z => e z.symm)]
      rfl
  · have := putG_len m x ((getG m x).getD 0 + 1)
    have l' := S.ln
    rw [List.length_append]
    show (putG m x _).length ≤ l.length + 1
    omega
/-! ### sorted numbers -/
end DL

/-! rows of numbers, plainly -/
namespace DL
open PySem PySem.Spec PyProof.Rows L2
open PySem.Builtin.Int (intBits)
theorem beq_ans (a b : List Int) : D.beq (ans a) (ans b) = decide (a = b) := by
  have gen : ∀ (a b : List Int), PyData.eqvAll (D.pys (a.map D.int)) (D.pys (b.map D.int)) = decide (a = b) := by
    intro a
    induction a with
    | nil => intro b; cases b <;> simp [D.pys, PyData.eqvAll]
    | cons x a ih =>
      intro b
      cases b with
      | nil => simp [D.pys, PyData.eqvAll]
      | cons y b =>
        simp only [List.map_cons, D.pys, D.py, PyData.eqvAll, ih b]
        show (PyData.eqv (.int x) (.int y) && decide (a = b)) = _
        have e : PyData.eqv (.int x) (.int y) = decide (x = y) := by
          simp [PyData.eqv]
          exact Bool.eq_iff_iff.mpr (by simp)
        rw [e]
        by_cases h1 : x = y <;> by_cases h2 : a = b <;> simp [h1, h2]
  show PyData.eqv (.tuple (D.pys (a.map D.int))) (.tuple (D.pys (b.map D.int))) = _
  rw [PyData.eqv]
  exact gen a b
/-! ### how many stand in the one and not in the other -/
section
variable {α : Type} [DecidableEq α]
end
end DL

/-! rows of numbers, sorted -/
namespace DL
open PySem PySem.Spec PyProof.Rows L2
end DL

/-! Typed readings of the plain-data bodies: what a body does, told over Lean's own types. -/
namespace DL
open PySem PySem.Spec PyProof.Rows L2
open PySem.Builtin.Int (intBits)

/-- two lists, item by item -/
def A2 {α β : Type} (E : α → β → Prop) : List α → List β → Prop
  | [], ds => ds = []
  | a :: l, ds => ∃ d r, ds = d :: r ∧ E a d ∧ A2 E l r
section
variable {α β : Type} {E : α → β → Prop}
theorem A2.nil : A2 E [] [] := rfl
theorem A2.cons {a : α} {d : β} {l : List α} {r : List β} (h : E a d) (t : A2 E l r) : A2 E (a :: l) (d :: r) := ⟨d, r, rfl, h, t⟩
theorem A2.length : ∀ {l : List α} {r : List β}, A2 E l r → r.length = l.length
  | [], _, h => by rw [show _ = [] from h]; rfl
  | _ :: _, _, ⟨d, r, e, _, t⟩ => by rw [e, List.length_cons, List.length_cons, A2.length t]
theorem A2.append : ∀ {l l' : List α} {r r' : List β}, A2 E l r → A2 E l' r' → A2 E (l ++ l') (r ++ r')
  | [], _, _, _, h, t => by rw [show _ = [] from h]; exact t
  | _ :: _, _, _, _, ⟨d, r, e, x, y⟩, t => by rw [e]; exact ⟨d, _, rfl, x, A2.append y t⟩
theorem A2.drop : ∀ {l : List α} {r : List β} (n : Nat), A2 E l r → A2 E (l.drop n) (r.drop n)
  | _, _, 0, h => h
  | [], _, n + 1, h => by rw [show _ = [] from h]; rfl
  | _ :: _, _, n + 1, ⟨d, r, e, x, y⟩ => by rw [e]; exact A2.drop n y
theorem A2.take : ∀ {l : List α} {r : List β} (n : Nat), A2 E l r → A2 E (l.take n) (r.take n)
  | _, _, 0, h => rfl
  | [], _, n + 1, h => by rw [show _ = [] from h]; rfl
  | _ :: _, _, n + 1, ⟨d, r, e, x, y⟩ => by rw [e]; exact ⟨d, _, rfl, x, A2.take n y⟩
theorem A2.set {a : α} {d : β} (h : E a d) : ∀ {l : List α} {r : List β} (n : Nat), A2 E l r → A2 E (l.set n a) (r.set n d)
  | [], _, n, e => by rw [show _ = [] from e]; rfl
  | _ :: _, _, 0, ⟨w, r, e, x, y⟩ => by rw [e]; exact ⟨d, r, rfl, h, y⟩
  | _ :: _, _, n + 1, ⟨w, r, e, x, y⟩ => by rw [e]; exact ⟨w, _, rfl, x, A2.set h n y⟩
theorem A2.get : ∀ {l : List α} {r : List β} {i : Nat} {a : α}, A2 E l r → l[i]? = some a → ∃ d, r[i]? = some d ∧ E a d
  | _ :: _, _, 0, _, ⟨v, r, e, x, y⟩, h => by cases h; exact ⟨v, by rw [e]; rfl, x⟩
  | _ :: _, _, i + 1, d, ⟨v, r, e, x, y⟩, h => by
    obtain ⟨w, h1, h2⟩ := A2.get (i := i) (a := d) y (by simpa using h)
    exact ⟨w, by rw [e]; simpa using h1, h2⟩
theorem A2.imp {E' : α → β → Prop} (f : ∀ a d, E a d → E' a d) : ∀ {l : List α} {r : List β}, A2 E l r → A2 E' l r
  | [], _, h => h
  | _ :: _, _, ⟨d, r, e, x, y⟩ => ⟨d, r, e, f _ _ x, A2.imp f y⟩
theorem A2.fn {f : α → β} : ∀ {l : List α} {r : List β}, A2 (fun a d => d = f a) l r ↔ r = l.map f
  | [], r => Iff.rfl
  | a :: l, r => ⟨fun ⟨d, r', e, x, y⟩ => by rw [e, x, A2.fn.mp y]; rfl, fun h => ⟨f a, l.map f, h, rfl, A2.fn.mpr rfl⟩⟩
end

/-- r tells what x is, where it tells at all -/
def Rf {α β : Type} (x : Res β) (r : Res α) (E : α → β → Prop) : Prop := match r with
  | .ok a => ∃ d, x = .ok d ∧ E a d
  | .exc c fs => x = .exc c fs
  | .bad => True
section
variable {α β γ δ : Type}
theorem Rf.bind {x : Res β} {r : Res α} {E : α → β → Prop} {f : β → Res δ} {g : α → Res γ} {E' : γ → δ → Prop} (h : Rf x r E) (k : ∀ a d, E a d → Rf (f d) (g a) E') : Rf (x.bind f) (r.bind g) E' := by
  cases r with
  | ok a => obtain ⟨d, e, h⟩ := h; rw [e]; exact k a d h
  | exc c fs => rw [show x = _ from h]; exact rfl
  | bad => trivial
theorem Rf.ok {d : β} {a : α} {E : α → β → Prop} (h : E a d) : Rf (.ok d) (.ok a) E := ⟨d, rfl, h⟩
theorem Rf.bad {x : Res β} {E : α → β → Prop} : Rf x .bad E := trivial
theorem Rf.imp {x : Res β} {r : Res α} {E E' : α → β → Prop} (h : Rf x r E) (f : ∀ a d, E a d → E' a d) : Rf x r E' := by
  cases r with
  | ok a => obtain ⟨d, e, h⟩ := h; exact ⟨d, e, f _ _ h⟩
  | exc c fs => exact h
  | bad => trivial
theorem Rf.map {x : Res β} {r : Res α} {E : α → β → Prop} {E' : γ → β → Prop} {g : α → γ} (h : Rf x r E) (f : ∀ a d, E a d → E' (g a) d) : Rf x (r.bind fun a => .ok (g a)) E' := by
  cases r with
  | ok a => obtain ⟨d, e, h⟩ := h; exact ⟨d, e, f _ _ h⟩
  | exc c fs => exact h
  | bad => trivial
theorem Rf.get {x : Res β} {r : Res α} {E : α → β → Prop} {a : α} (h : Rf x r E) (e : r = .ok a) : ∃ d, x = .ok d ∧ E a d := by subst e; exact h
/-- where the reckoning itself is told -/
theorem Rf.of {x : Res β} {r : Res α} {E : α → β → Prop} {d : β} {a : α} (e : x = .ok d) (q : r = .ok a) (h : E a d) : Rf x r E := by subst q; exact ⟨d, e, h⟩
end

/-- what is known of a name -/
abbrev Kn := D → Bool → Prop
abbrev KEnv := List (Option Kn)
def sh {α : Type} (E : α → D → Prop) (a : α) : Kn := fun d o => E a d ∧ o = false
def ow {α : Type} (E : α → D → Prop) (a : α) : Kn := fun d o => E a d ∧ o = true
/-- the names' values are as known -/
def Le : KEnv → DL.Env → Prop := A2 fun r x => ∀ P, r = some P → ∃ d o, x = some (d, o) ∧ P d o
theorem Le.get {ρ : KEnv} {e : DL.Env} (h : Le ρ e) {i : Nat} {P : Kn} (k : ρ[i]? = some (some P)) : ∃ d o, e[i]? = some (some (d, o)) ∧ P d o := by
  obtain ⟨x, h1, h2⟩ := A2.get h k
  obtain ⟨d, o, h3, h4⟩ := h2 P rfl
  exact ⟨d, o, by rw [h1, h3], h4⟩
theorem Le.set {ρ : KEnv} {e : DL.Env} (h : Le ρ e) (i : Nat) {P : Kn} {d : D} {o : Bool} (k : P d o) : Le (ρ.set i (some P)) (e.set i (some (d, o))) :=
  A2.set (fun Q hq => by cases hq; exact ⟨d, o, rfl, k⟩) i h
theorem Le.forget {ρ : KEnv} {e : DL.Env} (h : Le ρ e) (i : Nat) : Le (ρ.set i none) (e.set i none) := A2.set (fun Q hq => by cases hq) i h
/-- less is known -/
def Sb : KEnv → KEnv → Prop := A2 fun r x => r = none ∨ r = x
theorem Le.less {ρ' ρ : KEnv} {e : DL.Env} (s : Sb ρ' ρ) (h : Le ρ e) : Le ρ' e := by
  induction ρ generalizing ρ' e with
  | nil =>
    cases ρ' with
    | nil => exact h
    | cons r ρ' => obtain ⟨_, _, e, _⟩ := s; cases e
  | cons x ρ ih =>
    obtain ⟨y, e', rfl, h1, h2⟩ := h
    cases ρ' with
    | nil => cases (show _ = [] from s)
    | cons r ρ' =>
      obtain ⟨_, _, e, s1, s2⟩ := s
      cases e
      refine ⟨y, e', rfl, fun P hP => ?_, ih s2 h2⟩
      rcases s1 with z | z
      · rw [z] at hP; cases hP
      · exact h1 P (z ▸ hP)
theorem Sb.nil : Sb [] [] := rfl
theorem Sb.same {r : Option Kn} {a b : KEnv} (s : Sb a b) : Sb (r :: a) (r :: b) := ⟨_, _, rfl, .inr rfl, s⟩
theorem Sb.drop {r : Option Kn} {a b : KEnv} (s : Sb a b) : Sb (none :: a) (r :: b) := ⟨_, _, rfl, .inl rfl, s⟩
theorem Sb.refl : ∀ a : KEnv, Sb a a
  | [] => rfl
  | _ :: a => .same (Sb.refl a)
/-- a list is handed on: what was owned is owned no more -/
def frK (P : Kn) : Kn := fun d o => o = false ∧ ∃ o', P d o'
def fzK : List Nat → KEnv → KEnv
  | [], ρ => ρ
  | i :: r, ρ => fzK r (match ρ[i]? with
    | some (some P) => ρ.set i (some (frK P))
    | _ => ρ)
theorem Le.unown {ρ : KEnv} {e : DL.Env} (h : Le ρ e) (i : Nat) : Le (match ρ[i]? with | some (some P) => ρ.set i (some (frK P)) | _ => ρ) (unown i e) := by
  cases hp : ρ[i]? with
  | none =>
    have : e[i]? = none := by
      rw [List.getElem?_eq_none_iff] at hp ⊢
      rw [A2.length h]; exact hp
    unfold DL.unown
    rw [this]
    exact h
  | some r =>
    cases r with
    | none =>
      have self : ρ.set i none = ρ := by
        apply List.ext_getElem?
        intro j
        rw [List.getElem?_set]
        by_cases hj : i = j
        · subst hj
          obtain ⟨w, hw⟩ := List.getElem?_eq_some_iff.mp hp
          simp [w, hw]
        · simp [hj]
      unfold DL.unown
      cases he : e[i]? with
      | none => exact h
      | some s =>
        cases s with
        | none => exact h
        | some z =>
          obtain ⟨d, o⟩ := z
          cases o with
          | false => exact h
          | true =>
            show Le ρ (e.set i (some (d, false)))
            rw [← self]
            exact A2.set (fun P hP => by cases hP) i h
    | some P =>
      obtain ⟨d, o, he, hP⟩ := h.get hp
      unfold DL.unown
      rw [he]
      cases o with
      | true => exact Le.set h i ⟨rfl, _, hP⟩
      | false =>
        dsimp only
        have : e.set i (some (d, false)) = e := by
          apply List.ext_getElem?
          intro j
          rw [List.getElem?_set]
          by_cases hj : i = j
          · subst hj
            rw [he]
            have := (List.getElem?_eq_some_iff.mp he).1
            simp [this]
          · simp [hj]
        rw [← this]
        exact Le.set h i ⟨rfl, _, hP⟩
theorem Le.fz : ∀ (al : List Nat) {ρ : KEnv} {e : DL.Env}, Le ρ e → Le (fzK al ρ) (fz al e)
  | [], _, _, h => h
  | i :: r, _, _, h => Le.fz r (h.unown i)
def wipeK (ρ : KEnv) : List Nat → KEnv
  | [] => ρ
  | v :: vs => (wipeK ρ vs).set v none
theorem Le.wipe {ρ : KEnv} {e : DL.Env} (h : Le ρ e) : ∀ vs : List Nat, Le (wipeK ρ vs) (wipeE e vs)
  | [] => h
  | v :: vs => (Le.wipe h vs).forget v

/-! ### expressions -/
def EvR {α β : Type} (ρ : KEnv) (f : DL.Env → Res β) (r : Res α) (E : α → β → Prop) : Prop := ∀ e, Le ρ e → Rf (f e) r E
abbrev RE (α : Type) := α → D → Prop
def eI : RE Int := fun i d => d = .int i
def eB : RE Bool := fun b d => d = .bl b
def eS : RE Str := fun x d => d = .str x
def eN : RE Unit := fun _ d => d = .non
def eD : RE D := fun a d => d = a
def eL {α : Type} (E : RE α) : RE (List α) := fun l d => ∃ ds, d = .lst ds ∧ A2 E l ds
def eT {α : Type} (E : RE α) : RE (List α) := fun l d => ∃ ds, d = .tup ds ∧ A2 E l ds
/-- rows of numbers -/
def eR : RE (List Int) := fun k d => d = ans k
/-- tuples of known form: the items' list -/
def qN : Unit → List D → Prop := fun _ ds => ds = []
def q1 {α : Type} (E : RE α) : α → List D → Prop := fun a ds => ∃ d, ds = [d] ∧ E a d
def qC {α β : Type} (E : RE α) (Q : β → List D → Prop) : α × β → List D → Prop := fun p ds => ∃ d r, ds = d :: r ∧ E p.1 d ∧ Q p.2 r
/-- truths and lists, as they are -/
def Tr : Bool → Bool → Prop := fun a b => b = a
section
variable {α β γ δ : Type} {ρ : KEnv}
theorem v_s {i : Nat} {E : RE α} {a : α} (h : ρ[i]? = some (some (sh E a))) : EvR ρ (eVarS i) (.ok a) E := fun e l => by
  obtain ⟨d, o, h1, h2, h3⟩ := l.get h
  subst h3
  exact ⟨d, by unfold eVarS; rw [h1], h2⟩
theorem v_o {i : Nat} {E : RE α} {a : α} (h : ρ[i]? = some (some (ow E a))) : EvR ρ (eVar i) (.ok a) E := fun e l => by
  obtain ⟨d, o, h1, h2, h3⟩ := l.get h
  exact ⟨d, by unfold eVar; rw [h1], h2⟩
theorem v_c {d : D} {E : RE α} {a : α} (h : E a d) : EvR ρ (eC d) (.ok a) E := fun e l => ⟨d, rfl, h⟩
theorem v_op {fa fb : DL.Env → Res D} {g : D → D → Res D} {Ea : RE α} {Eb : RE β} {Ec : RE γ} {ra : Res α} {rb : Res β} {gt : α → β → Res γ} (hg : ∀ a b x y, Ea a x → Eb b y → Rf (g x y) (gt a b) Ec) (ha : EvR ρ fa ra Ea) (hb : EvR ρ fb rb Eb) :
    EvR ρ (eOp g fa fb) (ra.bind fun a => rb.bind fun b => gt a b) Ec := fun e l => (ha e l).bind fun a x h1 => (hb e l).bind fun b y h2 => hg a b x y h1 h2
theorem v_opp {fa fb : DL.Env → Res D} {g : D → D → Res D} {Ea : RE α} {Eb : RE β} {Ec : RE γ} {a : α} {b : β} {r : Res γ} (hg : ∀ x y, Ea a x → Eb b y → Rf (g x y) r Ec) (ha : EvR ρ fa (.ok a) Ea) (hb : EvR ρ fb (.ok b) Eb) :
    EvR ρ (eOp g fa fb) r Ec := fun e l => by
  obtain ⟨x, e1, h1⟩ := ha e l
  obtain ⟨y, e2, h2⟩ := hb e l
  unfold eOp
  rw [e1, e2]
  exact hg x y h1 h2
theorem v_1 {fa : DL.Env → Res D} {g : D → Res D} {Ea : RE α} {Ec : RE γ} {ra : Res α} {gt : α → Res γ} (hg : ∀ a x, Ea a x → Rf (g x) (gt a) Ec) (ha : EvR ρ fa ra Ea) : EvR ρ (e1 g fa) (ra.bind gt) Ec := fun e l => (ha e l).bind hg
theorem v_1p {fa : DL.Env → Res D} {g : D → Res D} {Ea : RE α} {Ec : RE γ} {a : α} {r : Res γ} (hg : ∀ x, Ea a x → Rf (g x) r Ec) (ha : EvR ρ fa (.ok a) Ea) : EvR ρ (e1 g fa) r Ec := fun e l => by
  obtain ⟨x, e1, h1⟩ := ha e l
  unfold DL.e1
  rw [e1]
  exact hg x h1
theorem v_imp {fa : DL.Env → Res β} {E E' : α → β → Prop} {r : Res α} (h : EvR ρ fa r E) (f : ∀ a d, E a d → E' a d) : EvR ρ fa r E' := fun e l => (h e l).imp f
theorem v_cast {fa : DL.Env → Res β} {E : α → β → Prop} {E' : γ → β → Prop} {a : α} {c : γ} (h : EvR ρ fa (.ok a) E) (f : ∀ d, E a d → E' c d) : EvR ρ fa (.ok c) E' := fun e l => by
  obtain ⟨x, e1, h1⟩ := h e l
  exact ⟨x, e1, f x h1⟩
theorem v_map {fa : DL.Env → Res β} {E : α → β → Prop} {E' : γ → β → Prop} {r : Res α} {g : α → γ} (h : EvR ρ fa r E) (f : ∀ a d, E a d → E' (g a) d) : EvR ρ fa (r.bind fun a => .ok (g a)) E' := fun e l => (h e l).map f
/-- typed anew, where it can be -/
theorem v_as {fa : DL.Env → Res β} {E : α → β → Prop} {E' : γ → β → Prop} {r : Res α} {g : α → Res γ} (h : EvR ρ fa r E) (f : ∀ a d c, E a d → g a = .ok c → E' c d) (n : ∀ a c fs, g a ≠ .exc c fs) : EvR ρ fa (r.bind g) E' := fun e l => by
  have := h e l
  cases r with
  | ok a =>
    obtain ⟨d, e1, h1⟩ := this
    show Rf (fa e) (g a) E'
    cases q : g a with
    | ok c => exact ⟨d, e1, f a d c h1 q⟩
    | exc c fs => exact absurd q (n _ _ _)
    | bad => trivial
  | exc c fs => exact this
  | bad => trivial
theorem vq_n : EvR ρ aNil (.ok ()) qN := fun e l => ⟨[], rfl, rfl⟩
theorem vq_1 {f : DL.Env → Res D} {r : Res α} {E : RE α} (h : EvR ρ f r E) : EvR ρ (aCons f aNil) r (q1 E) := fun e l => by
  have := h e l
  unfold aCons aNil
  cases r with
  | ok a => obtain ⟨d, e1, h1⟩ := this; rw [e1]; exact ⟨[d], rfl, d, rfl, h1⟩
  | exc c fs => rw [show f e = _ from this]; rfl
  | bad => trivial
theorem vq_c {f : DL.Env → Res D} {fs : DL.Env → Res (List D)} {r : Res α} {rs : Res β} {E : RE α} {Q : β → List D → Prop} (h : EvR ρ f r E) (t : EvR ρ fs rs Q) : EvR ρ (aCons f fs) (r.bind fun a => rs.bind fun b => .ok (a, b)) (qC E Q) := fun e l =>
  (h e l).bind fun a d h1 => (t e l).bind fun b ds h2 => .ok ⟨d, ds, rfl, h1, h2⟩
theorem vq_cp {f : DL.Env → Res D} {fs : DL.Env → Res (List D)} {a : α} {b : β} {E : RE α} {Q : β → List D → Prop} (h : EvR ρ f (.ok a) E) (t : EvR ρ fs (.ok b) Q) : EvR ρ (aCons f fs) (.ok (a, b)) (qC E Q) := vq_c h t
/-- as many items as one likes, all of a kind -/
theorem vl_nil {E : RE α} : EvR ρ aNil (.ok []) (A2 E) := fun e l => ⟨[], rfl, rfl⟩
theorem vl_c {f : DL.Env → Res D} {fs : DL.Env → Res (List D)} {r : Res α} {rs : Res (List α)} {E : RE α} (h : EvR ρ f r E) (t : EvR ρ fs rs (A2 E)) : EvR ρ (aCons f fs) (r.bind fun a => rs.bind fun b => .ok (a :: b)) (A2 E) := fun e l =>
  (h e l).bind fun a d h1 => (t e l).bind fun b ds h2 => .ok ⟨d, ds, rfl, h1, h2⟩
theorem vl_cp {f : DL.Env → Res D} {fs : DL.Env → Res (List D)} {a : α} {b : List α} {E : RE α} (h : EvR ρ f (.ok a) E) (t : EvR ρ fs (.ok b) (A2 E)) : EvR ρ (aCons f fs) (.ok (a :: b)) (A2 E) := vl_c h t
theorem v_tupT {fs : DL.Env → Res (List D)} {r : Res (List α)} {E : RE α} (h : EvR ρ fs r (A2 E)) : EvR ρ (eTup fs) r (eT E) := fun e l => by
  have := h e l
  unfold eTup
  cases r with
  | ok a => obtain ⟨d, e1, h1⟩ := this; rw [e1]; exact ⟨_, rfl, d, rfl, h1⟩
  | exc c fs' => rw [show fs e = _ from this]; rfl
  | bad => trivial
theorem v_tupR {fs : DL.Env → Res (List D)} {r : Res (List Int)} (h : EvR ρ fs r (A2 eI)) : EvR ρ (eTup fs) r eR := fun e l => by
  have := h e l
  unfold eTup
  cases r with
  | ok a => obtain ⟨d, e1, h1⟩ := this; rw [e1]; exact ⟨_, rfl, by rw [A2.fn.mp h1]; rfl⟩
  | exc c fs' => rw [show fs e = _ from this]; rfl
  | bad => trivial
theorem v_lst {fs : DL.Env → Res (List D)} {r : Res (List α)} {E : RE α} (h : EvR ρ fs r (A2 E)) : EvR ρ (eLst fs) r (eL E) := fun e l => by
  have := h e l
  unfold eLst
  cases r with
  | ok a => obtain ⟨d, e1, h1⟩ := this; rw [e1]; exact ⟨_, rfl, d, rfl, h1⟩
  | exc c fs' => rw [show fs e = _ from this]; rfl
  | bad => trivial
/-- a call: what the def does on data of these readings -/
def CallR (F : List D → Res D) (Q : α → List D → Prop) (t : α → Res β) (E : RE β) : Prop := ∀ a ds, Q a ds → Rf (F ds) (t a) E
theorem v_call {F : List D → Res D} {fs : DL.Env → Res (List D)} {Q : α → List D → Prop} {t : α → Res β} {E : RE β} {r : Res α} (c : CallR F Q t E) (h : EvR ρ fs r Q) : EvR ρ (eCall F fs) (r.bind t) E := fun e l => (h e l).bind c
theorem v_callp {F : List D → Res D} {fs : DL.Env → Res (List D)} {Q : α → List D → Prop} {t : α → Res β} {E : RE β} {a : α} (c : CallR F Q t E) (h : EvR ρ fs (.ok a) Q) : EvR ρ (eCall F fs) (t a) E := fun e l => by
  obtain ⟨d, e1, h1⟩ := h e l
  unfold eCall
  rw [e1]
  exact c a d h1
/-! tests -/
theorem b_test {fa fb : DL.Env → Res D} {g : D → D → Res D} {r : Res Bool} (h : EvR ρ (eOp g fa fb) r eB) : EvR ρ (bTest g fa fb) r Tr := fun e l => by
  have := h e l
  unfold eOp at this
  unfold bTest
  have q : ∀ (x y : D), ((g x y).bind D.asB) = (g x y).bind D.asB := fun _ _ => rfl
  have ass : (fa e).bind (fun x => (fb e).bind fun y => (g x y).bind D.asB) = ((fa e).bind fun x => (fb e).bind fun y => g x y).bind D.asB := by
    cases fa e with
    | ok x => cases fb e <;> rfl
    | exc c fs => rfl
    | bad => rfl
  rw [ass]
  have z := this.bind (f := D.asB) (g := fun b => Res.ok b) (E' := Tr) fun b d hd => by rw [show d = _ from hd]; exact ⟨b, rfl, rfl⟩
  cases r <;> exact z
theorem b_truB {f : DL.Env → Res D} {r : Res Bool} (h : EvR ρ f r eB) : EvR ρ (bTruth f) r Tr := fun e l => by
  have := (h e l).bind (f := D.truth) (g := fun b => Res.ok b) (E' := Tr) fun b d hd => by rw [show d = _ from hd]; exact ⟨b, rfl, rfl⟩
  cases r <;> exact this
theorem b_or {fa fb : DL.Env → Res Bool} {ra rb : Res Bool} (ha : EvR ρ fa ra Tr) (hb : EvR ρ fb rb Tr) : EvR ρ (bOr fa fb) (ra.bind fun b => if b = true then .ok true else rb) Tr := fun e l =>
  (ha e l).bind fun a b h => by
    rw [show b = a from h]
    cases a
    · exact hb e l
    · exact ⟨true, rfl, rfl⟩
theorem b_not {fa : DL.Env → Res Bool} {ra : Res Bool} (ha : EvR ρ fa ra Tr) : EvR ρ (bNot fa) (ra.bind fun b => .ok (!b)) Tr := fun e l =>
  (ha e l).bind fun a b h => by rw [show b = a from h]; exact ⟨_, rfl, rfl⟩
theorem b_orP {fa fb : DL.Env → Res Bool} {P Q : Prop} [Decidable P] [Decidable Q] (ha : EvR ρ fa (.ok (decide P)) Tr) (hb : EvR ρ fb (.ok (decide Q)) Tr) : EvR ρ (bOr fa fb) (.ok (decide (P ∨ Q))) Tr := fun e l => by
  have := b_or ha hb e l
  rw [show (Res.ok (decide P)).bind (fun b => if b = true then .ok true else Res.ok (decide Q)) = .ok (decide (P ∨ Q)) by by_cases h : P <;> simp [h]] at this
  exact this
theorem b_notP {fa : DL.Env → Res Bool} {P : Prop} [Decidable P] (ha : EvR ρ fa (.ok (decide P)) Tr) : EvR ρ (bNot fa) (.ok (decide (¬ P))) Tr := fun e l => by
  have := b_not ha e l
  rw [show (Res.ok (decide P)).bind (fun b => .ok (!b)) = .ok (decide (¬ P)) by by_cases h : P <;> simp [h]] at this
  exact this
/-- as a proposition -/
theorem b_P {fa : DL.Env → Res Bool} {b : Bool} (ha : EvR ρ fa (.ok b) Tr) : EvR ρ fa (.ok (decide (b = true))) Tr := by
  cases b <;> exact ha
/-! values of and, or, not -/
theorem v_and {fa fb : DL.Env → Res D} {ra rb : Res Bool} (ha : EvR ρ fa ra eB) (hb : EvR ρ fb rb eB) : EvR ρ (eAnd fa fb) (ra.bind fun b => if b = true then rb else .ok false) eB := fun e l =>
  (ha e l).bind fun a b h => by
    rw [show b = _ from h]
    cases a
    · exact ⟨_, rfl, rfl⟩
    · exact hb e l
theorem v_not {fa : DL.Env → Res D} {ra : Res Bool} (ha : EvR ρ fa ra eB) : EvR ρ (eNot fa) (ra.bind fun b => .ok (!b)) eB := fun e l =>
  (ha e l).bind fun a b h => by rw [show b = _ from h]; exact ⟨_, rfl, rfl⟩
theorem v_andP {fa fb : DL.Env → Res D} {P Q : Prop} [Decidable P] [Decidable Q] (ha : EvR ρ fa (.ok (decide P)) eB) (hb : EvR ρ fb (.ok (decide Q)) eB) : EvR ρ (eAnd fa fb) (.ok (decide (P ∧ Q))) eB := fun e l => by
  have := v_and ha hb e l
  rw [show (Res.ok (decide P)).bind (fun b => if b = true then Res.ok (decide Q) else .ok false) = .ok (decide (P ∧ Q)) by by_cases h : P <;> simp [h]] at this
  exact this
theorem v_P {fa : DL.Env → Res D} {b : Bool} (ha : EvR ρ fa (.ok b) eB) : EvR ρ fa (.ok (decide (b = true))) eB := by
  cases b <;> exact ha
end
end DL

/-! Typed readings: statements, loops, defs. -/
namespace DL
open PySem PySem.Spec PyProof.Rows L2
open PySem.Builtin.Int (intBits)

/-- how a turn of a loop ends -/
inductive Oc (S R : Type) where
  | nx (s : S)
  | bk (s : S)
  | rt (v : R)

/-- what a block does, told by r; P: what an end means -/
def JM {T : Type} (r : Res T) (P : T → Out → Prop) (o : Out) : Prop := match r with
  | .ok t => P t o
  | .exc c fs => ∃ e', o = .ex c fs e'
  | .bad => True
def J {T : Type} (ρ : KEnv) (b : DL.Env → Out) (r : Res T) (P : T → Out → Prop) : Prop := ∀ e, Le ρ e → JM r P (b e)
/-- a def's end -/
def PT {R : Type} (E : RE R) : R → Out → Prop := fun v o => ∃ d, E v d ∧ (o = .rt d ∨ o = .ro d ∨ ((∃ e, o = .nx e) ∧ d = .non))
/-- on to the next -/
def PN {S : Type} (ρ : S → KEnv) : S → Out → Prop := fun s o => ∃ e, o = .nx e ∧ Le (ρ s) e
/-- a turn's end -/
def PB {S : Type} (ρ : S → KEnv) : S → Out → Prop := fun s o => ∃ e, (o = .nx e ∨ o = .ct e) ∧ Le (ρ s) e
def PL {S R : Type} (ρ : S → KEnv) (E : RE R) : Oc S R → Out → Prop := fun t o => match t with
  | .nx s => ∃ e, (o = .nx e ∨ o = .ct e) ∧ Le (ρ s) e
  | .bk s => ∃ e, o = .bk e ∧ Le (ρ s) e
  | .rt v => ∃ d, E v d ∧ (o = .rt d ∨ o = .ro d)
/-- a loop's end -/
def PX {S R : Type} (ρ : S → KEnv) (E : RE R) : Oc S R → Out → Prop := fun t o => match t with
  | .nx s => ∃ e, o = .nx e ∧ Le (ρ s) e
  | .bk _ => False
  | .rt v => ∃ d, E v d ∧ (o = .rt d ∨ o = .ro d)
/-- a step that always goes on -/
def Go (ρ : KEnv) (b : DL.Env → Out) (ρ' : KEnv) : Prop := ∀ e, Le ρ e → ∃ e', b e = .nx e' ∧ Le ρ' e'
section
variable {T S R α β : Type} {ρ ρ' : KEnv} {a b c : DL.Env → Out} {r : Res T} {P : T → Out → Prop}
theorem j_go (h : Go ρ a ρ') (k : J ρ' b r P) : J ρ (sSeq a b) r P := fun e l => by
  obtain ⟨e', h1, h2⟩ := h e l
  have : sSeq a b e = b e' := by unfold sSeq; rw [h1]
  rw [this]
  exact k e' h2
theorem j_do {s : Res S} {ρs : S → KEnv} {k : S → Res T} (h : J ρ a s (PN ρs)) (q : ∀ x, J (ρs x) b (k x) P) : J ρ (sSeq a b) (s.bind k) P := fun e l => by
  have := h e l
  cases s with
  | ok x =>
    obtain ⟨e', h1, h2⟩ := this
    have : sSeq a b e = b e' := by unfold sSeq; rw [h1]
    rw [this]
    exact q x e' h2
  | exc cc fs => obtain ⟨e', h1⟩ := this; exact ⟨e', by unfold sSeq; rw [h1]⟩
  | bad => trivial
theorem j_assoc (h : J ρ (sSeq a (sSeq b c)) r P) : J ρ (sSeq (sSeq a b) c) r P := fun e l => by
  have : sSeq (sSeq a b) c e = sSeq a (sSeq b c) e := by unfold sSeq; cases a e <;> rfl
  rw [this]
  exact h e l
theorem j_skip (h : J ρ b r P) : J ρ (sSeq sSkip b) r P := fun e l => h e l
theorem j_if {al : List Nat} {ft : DL.Env → Res Bool} {rt : Res Bool} {ra rb : Res T} (hc : EvR ρ ft rt Tr) (ha : J (fzK al ρ) a ra P) (hb : J (fzK al ρ) b rb P) : J ρ (sIf al ft a b) (rt.bind fun z => if z = true then ra else rb) P := fun e l => by
  have := hc e l
  have f := l.fz al
  cases rt with
  | ok z =>
    obtain ⟨y, h1, h2⟩ := this
    have q : sIf al ft a b e = if y = true then a (fz al e) else b (fz al e) := by rw [sIf_app, h1]
    rw [q, show y = z from h2]
    cases z
    · exact hb _ f
    · exact ha _ f
  | exc cc fs => exact ⟨_, by rw [sIf_app, show ft e = _ from this]⟩
  | bad => trivial
theorem j_ifP {al : List Nat} {ft : DL.Env → Res Bool} {p : Prop} [Decidable p] {ra rb : Res T} (hc : EvR ρ ft (.ok (decide p)) Tr) (ha : J (fzK al ρ) a ra P) (hb : J (fzK al ρ) b rb P) : J ρ (sIf al ft a b) (if p then ra else rb) P := by
  have := j_if hc ha hb
  by_cases h : p
  · rw [if_pos h]; simpa [h] using this
  · rw [if_neg h]; simpa [h] using this
theorem seq_if (al : List Nat) (ft : DL.Env → Res Bool) : sSeq (sIf al ft a b) c = sIf al ft (sSeq a c) (sSeq b c) := by
  funext e
  rw [sSeq_app, sIf_app, sIf_app]
  cases ft e with
  | ok z => cases z <;> rfl
  | exc cc fs => rfl
  | bad => rfl
theorem j_ifs {al : List Nat} {ft : DL.Env → Res Bool} {rt : Res Bool} {ra rb : Res T} (hc : EvR ρ ft rt Tr) (ha : J (fzK al ρ) (sSeq a c) ra P) (hb : J (fzK al ρ) (sSeq b c) rb P) : J ρ (sSeq (sIf al ft a b) c) (rt.bind fun z => if z = true then ra else rb) P := by
  rw [seq_if]; exact j_if hc ha hb
theorem j_ifsP {al : List Nat} {ft : DL.Env → Res Bool} {p : Prop} [Decidable p] {ra rb : Res T} (hc : EvR ρ ft (.ok (decide p)) Tr) (ha : J (fzK al ρ) (sSeq a c) ra P) (hb : J (fzK al ρ) (sSeq b c) rb P) : J ρ (sSeq (sIf al ft a b) c) (if p then ra else rb) P := by
  rw [seq_if]; exact j_ifP hc ha hb
/-! ends -/
theorem j_ret {al : List Nat} {f : DL.Env → Res D} {x : Res R} {E : RE R} {g : R → T} (hP : ∀ v d, E v d → P (g v) (.rt d)) (h : EvR ρ f x E) : J ρ (sSeq (sRet al f) c) (x.bind fun v => .ok (g v)) P := fun e l => by
  have := h e l
  cases x with
  | ok v => obtain ⟨d, h1, h2⟩ := this; show P (g v) _; rw [sSeq_app, sRet_app, h1]; exact hP v d h2
  | exc cc fs => exact ⟨_, by rw [sSeq_app, sRet_app, show f e = _ from this]⟩
  | bad => trivial
theorem j_retT {al : List Nat} {f : DL.Env → Res D} {x : Res R} {E : RE R} (h : EvR ρ f x E) : J ρ (sSeq (sRet al f) c) x (PT E) := by
  have := j_ret (ρ := ρ) (c := c) (al := al) (g := fun v => v) (P := PT E) (fun v d hd => ⟨d, hd, .inl rfl⟩) h
  cases x <;> exact this
theorem j_retL {al : List Nat} {f : DL.Env → Res D} {x : Res R} {E : RE R} {ρs : S → KEnv} (h : EvR ρ f x E) : J ρ (sSeq (sRet al f) c) (x.bind fun v => .ok (.rt v)) (PL ρs E) := j_ret (fun v d hd => ⟨d, hd, .inl rfl⟩) h
theorem j_end {ρs : S → KEnv} {s : S} (h : Sb (ρs s) ρ) : J ρ sSkip (.ok s) (PN ρs) := fun e l => ⟨e, rfl, l.less h⟩
theorem j_endB {ρs : S → KEnv} {s : S} (h : Sb (ρs s) ρ) : J ρ sSkip (.ok s) (PB ρs) := fun e l => ⟨e, .inl rfl, l.less h⟩
theorem j_endL {ρs : S → KEnv} {E : RE R} {s : S} (h : Sb (ρs s) ρ) : J ρ sSkip (.ok (.nx s)) (PL ρs E) := fun e l => ⟨e, .inl rfl, l.less h⟩
/-- a loop that may return, and what comes behind it -/
def thenX (s : Res (Oc S R)) (m : R → T) (k : S → Res T) : Res T := s.bind fun o => match o with
  | .nx x => k x
  | .rt v => .ok (m v)
  | .bk _ => .bad
theorem j_x {s : Res (Oc S R)} {E : RE R} {ρs : S → KEnv} {k : S → Res T} {m : R → T} (hP : ∀ v d o, E v d → (o = .rt d ∨ o = .ro d) → P (m v) o) (h : J ρ a s (PX ρs E)) (q : ∀ x, J (ρs x) b (k x) P) : J ρ (sSeq a b) (thenX s m k) P := fun e l => by
  have := h e l
  unfold thenX
  cases s with
  | ok x =>
    cases x with
    | nx x =>
      obtain ⟨e', h1, h2⟩ := this
      have : sSeq a b e = b e' := by unfold sSeq; rw [h1]
      show JM (k x) P (sSeq a b e)
      rw [this]
      exact q x e' h2
    | rt v =>
      obtain ⟨d, h1, h2⟩ := this
      show P (m v) (sSeq a b e)
      have : sSeq a b e = a e := by unfold sSeq; rcases h2 with h2 | h2 <;> rw [h2]
      rw [this]
      exact hP v d _ h1 h2
    | bk x => exact this.elim
  | exc cc fs => obtain ⟨e', h1⟩ := this; exact ⟨e', by unfold sSeq; rw [h1]⟩
  | bad => trivial
theorem j_xT {s : Res (Oc S R)} {E : RE R} {ρs : S → KEnv} {k : S → Res R} (h : J ρ a s (PX ρs E)) (q : ∀ x, J (ρs x) b (k x) (PT E)) : J ρ (sSeq a b) (thenX s (fun v => v) k) (PT E) :=
  j_x (fun v d o hd ho => ⟨d, hd, ho.imp (fun z => z) .inl⟩) h q
/-! simple statements -/
theorem g_set {al : List Nat} {i : Nat} {f : DL.Env → Res D} {E : RE α} {x : α} (h : EvR ρ f (.ok x) E) : Go ρ (sSet al i f) ((fzK al ρ).set i (some (sh E x))) := fun e l => by
  obtain ⟨d, h1, h2⟩ := h e l
  exact ⟨_, by rw [sSet_app, h1], (l.fz al).set i ⟨h2, rfl⟩⟩
theorem g_setF {al : List Nat} {i : Nat} {f : DL.Env → Res D} {E : RE α} {x : α} (h : EvR ρ f (.ok x) E) : Go ρ (sSetF al i f) ((fzK al ρ).set i (some (ow E x))) := fun e l => by
  obtain ⟨d, h1, h2⟩ := h e l
  exact ⟨_, by rw [sSetF_app, h1], (l.fz al).set i ⟨h2, rfl⟩⟩
theorem d_set {al : List Nat} {i : Nat} {f : DL.Env → Res D} {E : RE α} {x : Res α} (h : EvR ρ f x E) : J ρ (sSet al i f) x (PN fun v => (fzK al ρ).set i (some (sh E v))) := fun e l => by
  have := h e l
  cases x with
  | ok v => obtain ⟨d, h1, h2⟩ := this; exact ⟨_, by rw [sSet_app, h1], (l.fz al).set i ⟨h2, rfl⟩⟩
  | exc cc fs => exact ⟨_, by rw [sSet_app, show f e = _ from this]⟩
  | bad => trivial
theorem d_setF {al : List Nat} {i : Nat} {f : DL.Env → Res D} {E : RE α} {x : Res α} (h : EvR ρ f x E) : J ρ (sSetF al i f) x (PN fun v => (fzK al ρ).set i (some (ow E v))) := fun e l => by
  have := h e l
  cases x with
  | ok v => obtain ⟨d, h1, h2⟩ := this; exact ⟨_, by rw [sSetF_app, h1], (l.fz al).set i ⟨h2, rfl⟩⟩
  | exc cc fs => exact ⟨_, by rw [sSetF_app, show f e = _ from this]⟩
  | bad => trivial
/-- a pattern takes what is read as E, the names known as ρ then as ρ' -/
def BindR (p : Pat) (E : RE α) (x : α) (ρ ρ' : KEnv) : Prop := ∀ d e, E x d → Le ρ e → ∃ e', p.bind d e = .ok e' ∧ Le ρ' e'
theorem p_nm {i : Nat} {E : RE α} {x : α} : BindR (.nm i) E x ρ (ρ.set i (some (sh E x))) := fun d e h l => ⟨_, rfl, l.set i ⟨h, rfl⟩⟩
/-- .. a list of patterns -/
def BindsR (ps : List Pat) (Q : α → List D → Prop) (x : α) (ρ ρ' : KEnv) : Prop := ∀ ds e, Q x ds → Le ρ e → ∃ e', Pat.binds ps ds e = .ok e' ∧ Le ρ' e'
theorem ps_1 {p : Pat} {E : RE α} {x : α} (h : BindR p E x ρ ρ') : BindsR [p] (q1 E) x ρ ρ' := fun ds e ⟨d, h1, h2⟩ l => by
  obtain ⟨e', a1, a2⟩ := h d e h2 l
  subst h1
  exact ⟨e', by unfold Pat.binds; rw [a1]; rfl, a2⟩
theorem ps_c {p : Pat} {ps : List Pat} {E : RE α} {Q : β → List D → Prop} {x : α} {y : β} {ρ1 : KEnv} (h : BindR p E x ρ ρ1) (t : BindsR ps Q y ρ1 ρ') : BindsR (p :: ps) (qC E Q) (x, y) ρ ρ' := fun ds e ⟨d, r, h1, h2, h3⟩ l => by
  subst h1
  obtain ⟨e1, a1, a2⟩ := h d e h2 l
  obtain ⟨e2, b1, b2⟩ := t r e1 h3 a2
  exact ⟨e2, by unfold Pat.binds; rw [a1]; exact b1, b2⟩
/-- a pair that is a known pair's items, taken apart by name -/
theorem ps_c' {p : Pat} {ps : List Pat} {E : RE α} {Q : β → List D → Prop} {x : α × β} {ρ1 : KEnv} (h : BindR p E x.1 ρ ρ1) (t : BindsR ps Q x.2 ρ1 ρ') : BindsR (p :: ps) (qC E Q) x ρ ρ' := ps_c (x := x.1) (y := x.2) h t
/-- tuples made of items (never a module's constant) -/
def eQ {α : Type} (Q : α → List D → Prop) : RE α := fun a d => ∃ ds, d = .tup ds ∧ Q a ds
theorem p_tp {ps : List Pat} {Q : α → List D → Prop} {x : α} (h : BindsR ps Q x ρ ρ') : BindR (.tp ps) (eQ Q) x ρ ρ' := fun d e ⟨ds, h1, h2⟩ l => by
  subst h1
  exact h ds e h2 l
theorem v_tupQ {fs : DL.Env → Res (List D)} {r : Res α} {Q : α → List D → Prop} (h : EvR ρ fs r Q) : EvR ρ (eTup fs) r (eQ Q) := fun e l => by
  have := h e l
  unfold eTup
  cases r with
  | ok a => obtain ⟨d, e1, h1⟩ := this; rw [e1]; exact ⟨_, rfl, d, rfl, h1⟩
  | exc c fs' => rw [show fs e = _ from this]; rfl
  | bad => trivial
theorem d_asg {al : List Nat} {p : Pat} {f : DL.Env → Res D} {E : RE α} {x : Res α} {ρs : α → KEnv} (h : EvR ρ f x E) (hp : ∀ v, BindR p E v (fzK al ρ) (ρs v)) : J ρ (sAsg al p f) x (PN ρs) := fun e l => by
  have := h e l
  cases x with
  | ok v =>
    obtain ⟨d, h1, h2⟩ := this
    obtain ⟨e', a1, a2⟩ := hp v d _ h2 (l.fz al)
    exact ⟨e', by rw [sAsg_app, h1]; dsimp only; rw [a1], a2⟩
  | exc cc fs => exact ⟨_, by rw [sAsg_app, show f e = _ from this]⟩
  | bad => trivial
/-! ### loops -/
def forR {α S : Type} : List α → S → (α → S → Res S) → Res S
  | [], s, _ => .ok s
  | a :: l, s, f => (f a s).bind fun s' => forR l s' f
def forX {α S R : Type} : List α → S → (α → S → Res (Oc S R)) → Res (Oc S R)
  | [], s, _ => .ok (.nx s)
  | a :: l, s, f => (f a s).bind fun o => match o with
    | .nx s' => forX l s' f
    | .bk s' => .ok (.nx s')
    | .rt v => .ok (.rt v)
theorem turns_R {p : Pat} {E : RE α} {ρs : S → KEnv} {ρb : α → S → KEnv} {f : α → S → Res S} (hp : ∀ x s, BindR p E x (ρs s) (ρb x s)) (hb : ∀ x s, J (ρb x s) b (f x s) (PB ρs)) :
    ∀ {l : List α} {ds : List D} {s : S} {e : DL.Env}, A2 E l ds → Le (ρs s) e → JM (forR l s f) (PN ρs) (turns p b ds e)
  | [], ds, s, e, h, l => by rw [show ds = [] from h]; exact ⟨e, rfl, l⟩
  | x :: xs, _, s, e, ⟨d, r, rfl, h1, h2⟩, l => by
    obtain ⟨e1, a1, a2⟩ := hp x s d e h1 l
    have := hb x s e1 a2
    unfold forR turns
    rw [a1]
    cases q : f x s with
    | ok s' =>
      rw [q] at this
      obtain ⟨e2, b1, b2⟩ := this
      have ih := turns_R hp hb (s := s') h2 b2
      rw [Res.bind_ok]
      rcases b1 with b1 | b1 <;> (dsimp only; rw [b1]; exact ih)
    | exc c fs => rw [q] at this; obtain ⟨e2, b1⟩ := this; exact ⟨e2, by dsimp only; rw [b1]⟩
    | bad => trivial
theorem d_for {al : List Nat} {p : Pat} {fi : DL.Env → Res (List D)} {E : RE α} {xs : Res (List α)} {ρs : S → KEnv} {ρb : α → S → KEnv} {f : α → S → Res S} {s : S}
    (hi : EvR ρ fi xs (A2 E)) (h0 : Sb (ρs s) (fzK al ρ)) (hp : ∀ x s, BindR p E x (ρs s) (ρb x s)) (hb : ∀ x s, J (ρb x s) b (f x s) (PB ρs)) : J ρ (sFor al p fi b) (xs.bind fun l => forR l s f) (PN ρs) := fun e l => by
  have := hi e l
  cases xs with
  | ok xs =>
    obtain ⟨ds, h1, h2⟩ := this
    have t := turns_R hp hb h2 ((l.fz al).less h0)
    rw [sFor_app, h1]
    exact t
  | exc c fs => exact ⟨_, by rw [sFor_app, show fi e = _ from this]⟩
  | bad => trivial
theorem d_forP {al : List Nat} {p : Pat} {fi : DL.Env → Res (List D)} {E : RE α} {xs : List α} {ρs : S → KEnv} {ρb : α → S → KEnv} {f : α → S → Res S} {s : S}
    (hi : EvR ρ fi (.ok xs) (A2 E)) (h0 : Sb (ρs s) (fzK al ρ)) (hp : ∀ x s, BindR p E x (ρs s) (ρb x s)) (hb : ∀ x s, J (ρb x s) b (f x s) (PB ρs)) : J ρ (sFor al p fi b) (forR xs s f) (PN ρs) := d_for hi h0 hp hb
theorem turns_X {p : Pat} {E : RE α} {E' : RE R} {ρs : S → KEnv} {ρb : α → S → KEnv} {f : α → S → Res (Oc S R)} (hp : ∀ x s, BindR p E x (ρs s) (ρb x s)) (hb : ∀ x s, J (ρb x s) b (f x s) (PL ρs E')) :
    ∀ {l : List α} {ds : List D} {s : S} {e : DL.Env}, A2 E l ds → Le (ρs s) e → JM (forX l s f) (PX ρs E') (turns p b ds e)
  | [], ds, s, e, h, l => by rw [show ds = [] from h]; exact ⟨e, rfl, l⟩
  | x :: xs, _, s, e, ⟨d, r, rfl, h1, h2⟩, l => by
    obtain ⟨e1, a1, a2⟩ := hp x s d e h1 l
    have := hb x s e1 a2
    unfold forX turns
    rw [a1]
    cases q : f x s with
    | ok o =>
      rw [q] at this
      cases o with
      | nx s' =>
        obtain ⟨e2, b1, b2⟩ := this
        have ih := turns_X hp hb (s := s') h2 b2
        rw [Res.bind_ok]
        rcases b1 with b1 | b1 <;> (dsimp only; rw [b1]; exact ih)
      | bk s' =>
        obtain ⟨e2, b1, b2⟩ := this
        rw [Res.bind_ok]
        dsimp only
        rw [b1]
        exact ⟨e2, rfl, b2⟩
      | rt v =>
        obtain ⟨d, b1, b2⟩ := this
        rw [Res.bind_ok]
        dsimp only
        rcases b2 with b2 | b2 <;> rw [b2]
        · exact ⟨d, b1, .inl rfl⟩
        · exact ⟨d, b1, .inr rfl⟩
    | exc c fs => rw [q] at this; obtain ⟨e2, b1⟩ := this; exact ⟨e2, by dsimp only; rw [b1]⟩
    | bad => trivial
theorem d_forX {al : List Nat} {p : Pat} {fi : DL.Env → Res (List D)} {E : RE α} {E' : RE R} {xs : Res (List α)} {ρs : S → KEnv} {ρb : α → S → KEnv} {f : α → S → Res (Oc S R)} {s : S}
    (hi : EvR ρ fi xs (A2 E)) (h0 : Sb (ρs s) (fzK al ρ)) (hp : ∀ x s, BindR p E x (ρs s) (ρb x s)) (hb : ∀ x s, J (ρb x s) b (f x s) (PL ρs E')) : J ρ (sFor al p fi b) (xs.bind fun l => forX l s f) (PX ρs E') := fun e l => by
  have := hi e l
  cases xs with
  | ok xs =>
    obtain ⟨ds, h1, h2⟩ := this
    have t := turns_X hp hb h2 ((l.fz al).less h0)
    rw [sFor_app, h1]
    exact t
  | exc c fs => exact ⟨_, by rw [sFor_app, show fi e = _ from this]⟩
  | bad => trivial
/-! while -/
/-! ### comprehensions -/
/-- so long that a list of them can be made -/
def Fits (n : Nat) : Prop := n ≤ sizeLine
def mapR {α β : Type} : List α → (α → Res β) → Res (List β)
  | [], _ => .ok []
  | a :: l, f => (f a).bind fun y => (mapR l f).bind fun ys => .ok (y :: ys)
def filR {α β : Type} : List α → (α → Res Bool) → (α → Res β) → Res (List β)
  | [], _, _ => .ok []
  | a :: l, c, f => (c a).bind fun z => if z = true then (f a).bind fun y => (filR l c f).bind fun ys => .ok (y :: ys) else filR l c f
/-- errors within a comprehension are not told -/
def Res.noX {α : Type} : Res α → Res α
  | .exc _ _ => .bad
  | r => r
open Classical in
noncomputable def compR {α β : Type} (l : List α) (f : α → Res β) : Res (List β) := if Fits l.length then (mapR l f).noX else .bad
open Classical in
noncomputable def compF {α β : Type} (l : List α) (c : α → Res Bool) (f : α → Res β) : Res (List β) := if Fits l.length then (filR l c f).noX else .bad
theorem compL_R {p : Pat} {ft : DL.Env → Res Bool} {fe : DL.Env → Res D} {E : RE α} {E' : RE β} {ρ : KEnv} {ρb : α → KEnv} {c : α → Res Bool} {f : α → Res β} (hp : ∀ x, BindR p E x ρ (ρb x)) (hc : ∀ x, EvR (ρb x) ft (c x) Tr) (he : ∀ x, EvR (ρb x) fe (f x) E') :
    ∀ {l : List α} {ds : List D} {e : DL.Env} {ys : List β}, A2 E l ds → Le ρ e → filR l c f = .ok ys → ∃ es, compL e p ft fe ds = .ok es ∧ A2 E' ys es
  | [], ds, e, ys, h, l, q => by
    rw [show ds = [] from h]
    cases (show Res.ok [] = Res.ok ys from q)
    exact ⟨[], rfl, rfl⟩
  | x :: xs, _, e, ys, ⟨d, r, rfl, h1, h2⟩, l, q => by
    obtain ⟨e1, a1, a2⟩ := hp x d e h1 l
    have b1 := hc x e1 a2
    unfold filR at q
    unfold compL
    rw [a1]
    cases hz : c x with
    | ok z =>
      rw [hz, Res.bind_ok] at q
      rw [hz] at b1
      obtain ⟨z', c1, c2⟩ := b1
      dsimp only
      rw [c1, show z' = z from c2]
      cases z with
      | false =>
        rw [if_neg (by simp)] at q
        exact compL_R hp hc he h2 l q
      | true =>
        rw [if_pos rfl] at q
        have b2 := he x e1 a2
        cases hy : f x with
        | ok y =>
          rw [hy, Res.bind_ok] at q
          rw [hy] at b2
          obtain ⟨y', d1, d2⟩ := b2
          cases hr : filR xs c f with
          | ok zs =>
            rw [hr, Res.bind_ok] at q
            cases q
            obtain ⟨es, f1, f2⟩ := compL_R hp hc he h2 l hr
            exact ⟨y' :: es, by dsimp only; rw [d1]; dsimp only; rw [f1]; rfl, y', es, rfl, d2, f2⟩
          | exc cc fs => rw [hr] at q; cases q
          | bad => rw [hr] at q; cases q
        | exc cc fs => rw [hy] at q; cases q
        | bad => rw [hy] at q; cases q
    | exc cc fs => rw [hz] at q; cases q
    | bad => rw [hz] at q; cases q
theorem filR_yes (f : α → Res β) : ∀ l : List α, filR l (fun _ => .ok true) f = mapR l f
  | [] => rfl
  | a :: l => by
    unfold filR mapR
    rw [Res.bind_ok, if_pos rfl, filR_yes f l]
theorem v_compF {own : List Nat} {p : Pat} {fi : DL.Env → Res (List D)} {ft : DL.Env → Res Bool} {fe : DL.Env → Res D} {E : RE α} {E' : RE β} {xs : Res (List α)} {ρb : α → KEnv} {c : α → Res Bool} {f : α → Res β} (hi : EvR ρ fi xs (A2 E))
    (hp : ∀ x, BindR p E x (wipeK ρ own) (ρb x)) (hc : ∀ x, EvR (ρb x) ft (c x) Tr) (he : ∀ x, EvR (ρb x) fe (f x) E') : EvR ρ (eComp own p fi ft fe) (xs.bind fun l => compF l c f) (eL E') := fun e l => by
  unfold eComp
  refine (hi e l).bind fun xs ds h => ?_
  unfold compF
  by_cases hl : Fits xs.length
  · rw [if_pos hl]
    cases q : filR xs c f with
    | ok ys =>
      obtain ⟨es, h1, h2⟩ := compL_R hp hc he h (l.wipe own) q
      rw [if_pos (by rw [A2.length h]; exact hl), h1]
      exact ⟨_, rfl, es, rfl, h2⟩
    | exc cc fs => trivial
    | bad => trivial
  · rw [if_neg hl]; trivial
theorem v_comp {own : List Nat} {p : Pat} {fi : DL.Env → Res (List D)} {fe : DL.Env → Res D} {E : RE α} {E' : RE β} {xs : Res (List α)} {ρb : α → KEnv} {f : α → Res β} (hi : EvR ρ fi xs (A2 E))
    (hp : ∀ x, BindR p E x (wipeK ρ own) (ρb x)) (he : ∀ x, EvR (ρb x) fe (f x) E') : EvR ρ (eComp own p fi bYes fe) (xs.bind fun l => compR l f) (eL E') := by
  have := v_compF (c := fun _ => .ok true) hi hp (fun x e l => ⟨true, rfl, rfl⟩) he
  have q : (fun l => compF l (fun _ => .ok true) f) = fun l => compR l f := by
    funext l
    unfold compF compR
    rw [filR_yes]
  rw [q] at this
  exact this
/-! ### defs -/
theorem Le.rep : ∀ n, Le (List.replicate n none) (List.replicate n none)
  | 0 => rfl
  | n + 1 => ⟨none, List.replicate n none, rfl, fun P h => (by cases h), Le.rep n⟩
def LeA (ds : List D) (ρ : KEnv) : Prop := A2 (fun (r : Option Kn) (d : D) => ∀ P, r = some P → P d false) ρ ds
theorem LeA.nil : LeA [] [] := rfl
theorem LeA.cons {E : RE α} {x : α} {d : D} {ds : List D} {ρ : KEnv} (h : E x d) (t : LeA ds ρ) : LeA (d :: ds) (some (sh E x) :: ρ) := ⟨d, ds, rfl, fun P hP => by cases hP; exact ⟨h, rfl⟩, t⟩
theorem LeA.le : ∀ {ds : List D} {ρ : KEnv} {n : Nat}, LeA ds ρ → Le (ρ ++ List.replicate n none) (ds.map (fun d => some (d, false)) ++ List.replicate n none)
  | ds, [], n, h => by rw [show ds = [] from h]; exact Le.rep n
  | _, r :: ρ, n, ⟨d, ds, rfl, h, t⟩ => ⟨some (d, false), _, rfl, fun P hP => ⟨d, false, rfl, h P hP⟩, LeA.le t⟩
theorem r_def {n m k : Nat} {fb : DL.Env → Out} {ds : List D} {x : Res R} {E : RE R} (h : LeA ds ρ) (hk : m - n = k) (j : J (ρ ++ List.replicate k none) fb x (PT E)) : Rf (runDef n m fb ds) x E := by
  subst hk
  have := j _ h.le
  unfold runDef env0
  cases x with
  | ok v =>
    obtain ⟨d, h1, h2⟩ := this
    rcases h2 with h2 | h2 | ⟨⟨e, h2⟩, h3⟩
    · rw [h2]; exact ⟨d, rfl, h1⟩
    · rw [h2]; exact ⟨d, rfl, h1⟩
    · rw [h2]; subst h3; exact ⟨_, rfl, h1⟩
  | exc c fs => obtain ⟨e', h2⟩ := this; rw [h2]; rfl
  | bad => trivial
end
end DL

/-! Typed readings: the operations. -/
namespace DL
open PySem PySem.Spec PyProof.Rows L2
open PySem.Builtin.Int (intBits)

/-! ### whole numbers -/
def MulOk (i j : Int) : Prop := intBits i + intBits j ≤ big
def DivOk (j : Int) : Prop := j ≠ 0 ∧ j.natAbs.log2 < 9000
open Classical in
noncomputable def mulR (i j : Int) : Res Int := if MulOk i j then .ok (i * j) else .bad
open Classical in
noncomputable def divR (i j : Int) : Res Int := if DivOk j then .ok (i.fdiv j) else .bad
open Classical in
noncomputable def modR (i j : Int) : Res Int := if j ≠ 0 then .ok (i.fmod j) else .bad
theorem mulR_ok {n m : Nat} {i j : Int} (h : Sm n i) (k : Sm m j) (l : n + m ≤ big) : mulR i j = .ok (i * j) := if_pos (h.two k l)
theorem divR_pos {i j : Int} {n : Nat} (h : 0 < j) (k : Sm n j) (l : n ≤ 8999) : divR i j = .ok (i / j) := by
  unfold divR
  rw [if_pos ⟨by omega, k.lg l⟩, Int.fdiv_eq_ediv_of_nonneg _ (by omega)]
theorem modR_pos {i j : Int} (h : 0 < j) : modR i j = .ok (i % j) := by
  unfold modR
  rw [if_pos (by omega), Int.fmod_eq_emod_of_nonneg _ (by omega)]
section
variable {α β γ : Type}
theorem o_add (a b : Int) : ∀ x y, eI a x → eI b y → Rf (dAdd x y) (.ok (a + b)) eI := by rintro _ _ rfl rfl; exact ⟨_, rfl, rfl⟩
theorem o_sub (a b : Int) : ∀ x y, eI a x → eI b y → Rf (dSub x y) (.ok (a - b)) eI := by rintro _ _ rfl rfl; exact ⟨_, rfl, rfl⟩
theorem o_mul (a b : Int) : ∀ x y, eI a x → eI b y → Rf (dMul x y) (mulR a b) eI := by
  rintro _ _ rfl rfl
  unfold mulR
  by_cases h : MulOk a b
  · rw [if_pos h]; exact ⟨_, if_pos h, rfl⟩
  · rw [if_neg h]; trivial
theorem o_div (a b : Int) : ∀ x y, eI a x → eI b y → Rf (dDiv x y) (divR a b) eI := by
  rintro _ _ rfl rfl
  unfold divR
  by_cases h : DivOk b
  · rw [if_pos h]; exact ⟨_, if_pos h, rfl⟩
  · rw [if_neg h]; trivial
theorem o_mod (a b : Int) : ∀ x y, eI a x → eI b y → Rf (dMod x y) (modR a b) eI := by
  rintro _ _ rfl rfl
  unfold modR
  by_cases h : b ≠ 0
  · rw [if_pos h]; exact ⟨_, if_pos h, rfl⟩
  · rw [if_neg h]; trivial
/-- by a written number above nought -/
theorem o_divL {b : Int} (a : Int) (h : 0 < b) (k : b < 18446744073709551616) : ∀ x y, eI a x → eI b y → Rf (dDiv x y) (.ok (a / b)) eI := by
  rintro _ _ rfl rfl; exact ⟨_, dDiv_lit _ _ h k, rfl⟩
theorem o_modL {b : Int} (a : Int) (h : 0 < b) : ∀ x y, eI a x → eI b y → Rf (dMod x y) (.ok (a % b)) eI := by
  rintro _ _ rfl rfl; exact ⟨_, dMod_lit _ _ h, rfl⟩
theorem o_powL {a b c : Int} (h : dPow (.int a) (.int b) = .ok (.int c)) : ∀ x y, eI a x → eI b y → Rf (dPow x y) (.ok c) eI := by
  rintro _ _ rfl rfl; exact ⟨_, h, rfl⟩
theorem v_neg {ρ : KEnv} {f : DL.Env → Res D} {a : Int} (h : EvR ρ f (.ok a) eI) : EvR ρ (eNeg f) (.ok (-a)) eI := fun e l => by
  obtain ⟨d, h1, h2⟩ := h e l
  exact ⟨_, by rw [eNeg_app, h1, show d = _ from h2]; rfl, rfl⟩
theorem o_lt (a b : Int) : ∀ x y, eI a x → eI b y → Rf (dLt x y) (.ok (decide (a < b))) eB := by rintro _ _ rfl rfl; exact ⟨_, dLt_int a b, rfl⟩
theorem o_le (a b : Int) : ∀ x y, eI a x → eI b y → Rf (dLe x y) (.ok (decide (a ≤ b))) eB := by rintro _ _ rfl rfl; exact ⟨_, dLe_int a b, rfl⟩
theorem o_gt (a b : Int) : ∀ x y, eI a x → eI b y → Rf (dGt x y) (.ok (decide (b < a))) eB := by rintro _ _ rfl rfl; exact ⟨_, dGt_int a b, rfl⟩
theorem o_max (a b : Int) : ∀ x y, eI a x → eI b y → Rf (dMax x y) (.ok (max a b)) eI := by
  rintro _ _ rfl rfl
  refine ⟨_, dMax_int a b, ?_⟩
  show D.int _ = D.int _
  congr 1
  split <;> omega
/-! ### equality -/
structure EqE {α : Type} [DecidableEq α] (E : RE α) (n : Nat) : Prop where
  pl : ∀ a d, E a d → d.pl n = true
  beq : ∀ a b x y, E a x → E b y → PyData.eqv x.py y.py = decide (a = b)
structure EqQ {α : Type} [DecidableEq α] (Q : α → List D → Prop) (n : Nat) : Prop where
  pl : ∀ a d, Q a d → D.pls d n = true
  beq : ∀ a b x y, Q a x → Q b y → PyData.eqvAll (D.pys x) (D.pys y) = decide (a = b)
theorem EqE.int (n : Nat) : EqE eI n := ⟨by rintro a _ rfl; rfl, by
  rintro a b _ _ rfl rfl
  simp [D.py, PyData.eqv]
  exact Bool.eq_iff_iff.mpr (by simp)⟩
theorem EqE.bl (n : Nat) : EqE eB n := ⟨by rintro a _ rfl; rfl, by
  rintro a b _ _ rfl rfl
  cases a <;> cases b <;> rfl⟩
theorem EqE.row (n : Nat) : EqE eR (n + 1) := ⟨by rintro a _ rfl; exact ans_pl a n, by rintro a b _ _ rfl rfl; exact beq_ans a b⟩
theorem a2_pls [DecidableEq α] {E : RE α} {n : Nat} (h : EqE E n) : ∀ {l : List α} {ds : List D}, A2 E l ds → D.pls ds n = true
  | [], _, e => by rw [show _ = [] from e]; rfl
  | a :: l, _, ⟨d, r, rfl, x, y⟩ => by rw [D.pls, h.pl a d x, a2_pls h y]; rfl
theorem a2_eqvs [DecidableEq α] {E : RE α} {n : Nat} (h : EqE E n) : ∀ {l l' : List α} {ds es : List D}, A2 E l ds → A2 E l' es → PyData.eqvAll (D.pys ds) (D.pys es) = decide (l = l')
  | [], [], _, _, e, f => by rw [show _ = [] from e, show _ = [] from f]; simp [D.pys, PyData.eqvAll]
  | [], _ :: _, _, _, e, ⟨d, r, rfl, _, _⟩ => by rw [show _ = [] from e]; simp [D.pys, PyData.eqvAll]
  | _ :: _, [], _, _, ⟨d, r, rfl, _, _⟩, f => by rw [show _ = [] from f]; simp [D.pys, PyData.eqvAll]
  | a :: l, b :: l', _, _, ⟨d, r, rfl, x1, x2⟩, ⟨d', r', rfl, y1, y2⟩ => by
    simp only [D.pys, PyData.eqvAll, h.beq a b d d' x1 y1, a2_eqvs h x2 y2]
    by_cases h1 : a = b <;> by_cases h2 : l = l' <;> simp [h1, h2]
theorem EqE.lst [DecidableEq α] {E : RE α} {n : Nat} (h : EqE E n) : EqE (eL E) (n + 1) := ⟨by
  rintro a _ ⟨ds, rfl, r⟩; exact a2_pls h r, by
  rintro a b _ _ ⟨ds, rfl, r⟩ ⟨es, rfl, s⟩
  rw [D.py, D.py, PyData.eqv]; exact a2_eqvs h r s⟩
theorem EqE.tup [DecidableEq α] {E : RE α} {n : Nat} (h : EqE E n) : EqE (eT E) (n + 1) := ⟨by
  rintro a _ ⟨ds, rfl, r⟩; exact a2_pls h r, by
  rintro a b _ _ ⟨ds, rfl, r⟩ ⟨es, rfl, s⟩
  rw [D.py, D.py, PyData.eqv]; exact a2_eqvs h r s⟩
theorem EqQ.one [DecidableEq α] {E : RE α} {n : Nat} (h : EqE E n) : EqQ (q1 E) n := ⟨by
  rintro a _ ⟨d, rfl, r⟩; simp [D.pls, h.pl a d r], by
  rintro a b _ _ ⟨d, rfl, r⟩ ⟨d', rfl, r'⟩
  simp only [D.pys, PyData.eqvAll, h.beq a b d d' r r', Bool.and_true]⟩
theorem EqQ.c [DecidableEq α] [DecidableEq β] {E : RE α} {Q : β → List D → Prop} {n : Nat} (h : EqE E n) (k : EqQ Q n) : EqQ (qC E Q) n := ⟨by
  rintro a _ ⟨d, r, rfl, h1, h2⟩; simp [D.pls, h.pl _ d h1, k.pl _ r h2], by
  rintro a b _ _ ⟨d, r, rfl, h1, h2⟩ ⟨d', r', rfl, h3, h4⟩
  simp only [D.pys, PyData.eqvAll, h.beq _ _ d d' h1 h3, k.beq _ _ r r' h2 h4]
  obtain ⟨a1, a2⟩ := a
  obtain ⟨b1, b2⟩ := b
  by_cases h1 : a1 = b1 <;> by_cases h2 : a2 = b2 <;> simp [h1, h2]⟩
theorem dEq_of {x y : D} {b : Bool} (h : x.pl 60 = true) (k : y.pl 60 = true) (e : PyData.eqv x.py y.py = b) : dEq x y = .ok (.bl b) := by
  cases x with
  | str s =>
    cases y with
    | str t =>
      subst e
      simp [dEq, D.py, PyData.eqv]
      exact Bool.eq_iff_iff.mpr (by simp)
    | _ => simp only [dEq]; rw [if_pos ⟨h, k⟩, D.beq, e]
  | _ => simp only [dEq]; rw [if_pos ⟨h, k⟩, D.beq, e]
theorem dNe_of {x y : D} {b : Bool} (h : x.pl 60 = true) (k : y.pl 60 = true) (e : PyData.eqv x.py y.py = b) : dNe x y = .ok (.bl (!b)) := by
  cases x with
  | str s =>
    cases y with
    | str t =>
      subst e
      simp [dNe, D.py, PyData.eqv]
      exact Bool.eq_iff_iff.mpr (by simp)
    | _ => simp only [dNe]; rw [if_pos ⟨h, k⟩, D.beq, e]
  | _ => simp only [dNe]; rw [if_pos ⟨h, k⟩, D.beq, e]
theorem o_eq [DecidableEq α] {E : RE α} (h : EqE E 60) (a b : α) : ∀ x y, E a x → E b y → Rf (dEq x y) (.ok (decide (a = b))) eB := fun x y hx hy =>
  ⟨_, dEq_of (h.pl a x hx) (h.pl b y hy) (h.beq a b x y hx hy), rfl⟩
theorem o_ne [DecidableEq α] {E : RE α} (h : EqE E 60) (a b : α) : ∀ x y, E a x → E b y → Rf (dNe x y) (.ok (decide (a ≠ b))) eB := fun x y hx hy =>
  ⟨_, dNe_of (h.pl a x hx) (h.pl b y hy) (h.beq a b x y hx hy), by simp [eB]⟩
/-! ### raw data -/
def rawB (r : Res D) : Res Bool := r.bind D.asB
theorem o_raw (g : D → D → Res D) (a b : D) : ∀ x y, eD a x → eD b y → Rf (g x y) (g a b) eD := by
  rintro _ _ rfl rfl
  cases g _ _ with
  | ok d => exact ⟨d, rfl, rfl⟩
  | exc c fs => rfl
  | bad => trivial
theorem rf_rawB (r : Res D) : Rf r (rawB r) eB := by
  unfold rawB
  cases r with
  | ok d =>
    cases d with
    | bl b => exact ⟨_, rfl, rfl⟩
    | _ => trivial
  | exc c fs => rfl
  | bad => trivial
theorem o_rawB (g : D → D → Res D) (a b : D) : ∀ x y, eD a x → eD b y → Rf (g x y) (rawB (g a b)) eB := by
  rintro _ _ rfl rfl
  exact rf_rawB _
theorem o_raw1 (g : D → Res D) (a : D) : ∀ x, eD a x → Rf (g x) (g a) eD := by
  rintro _ rfl
  cases g _ with
  | ok d => exact ⟨d, rfl, rfl⟩
  | exc c fs => rfl
  | bad => trivial
theorem o_raw1B (g : D → Res D) (a : D) : ∀ x, eD a x → Rf (g x) (rawB (g a)) eB := by
  rintro _ rfl
  exact rf_rawB _
def D.asI : D → Res Int
  | .int i => .ok i
  | _ => .bad
def D.asItems : D → Res (List D)
  | .lst xs => .ok xs
  | .tup xs => .ok xs
  | .con xs => .ok xs
  | _ => .bad
def asIs : List D → Res (List Int)
  | [] => .ok []
  | .int i :: r => (asIs r).bind fun l => .ok (i :: l)
  | _ => .bad
def D.asR : D → Res (List Int)
  | .tup xs => asIs xs
  | _ => .bad
@[simp] theorem asIs_ints : ∀ l : List Int, asIs (l.map D.int) = .ok l
  | [] => rfl
  | i :: l => by rw [List.map_cons, asIs, asIs_ints l]; rfl
@[simp] theorem asR_ans (l : List Int) : D.asR (ans l) = .ok l := asIs_ints l
section
variable {ρ : KEnv} {f : DL.Env → Res D} {r : Res D}
theorem v_asI (h : EvR ρ f r eD) : EvR ρ f (r.bind D.asI) eI := v_as h (fun a d c h1 h2 => by
  rw [show d = a from h1]; cases a <;> cases h2; rfl) fun a c fs h => by cases a <;> cases h
/-- what is walked, raw -/
theorem v_seqD (h : EvR ρ f r eD) : EvR ρ (iSeq f) (r.bind D.asItems) (A2 eD) := fun e l => by
  rw [iSeq_app]
  exact (h e l).bind fun a d hd => by
    rw [show d = a from hd]
    cases a <;> first | trivial | exact ⟨_, rfl, A2.fn.mpr (by simp)⟩
end
/-! ### lists and tuples -/
def getL {α : Type} (l : List α) (i : Int) : Res α := match atI l i with
  | some a => .ok a
  | none => .bad
theorem atI_A2 {E : RE α} {l : List α} {ds : List D} (h : A2 E l ds) {i : Int} {a : α} (q : atI l i = some a) : ∃ d, atI ds i = some d ∧ E a d := by
  unfold atI at q ⊢
  rw [h.length]
  cases k : ixN l.length i with
  | none => rw [k] at q; cases q
  | some j => rw [k] at q; exact h.get q
theorem o_ixA {x : D} (h : ∀ t kvs, x ≠ .dct t kvs) (y : D) : dIxA x y = dIx x y := by
  unfold dIxA
  cases x with
  | dct t kvs => exact absurd rfl (h t kvs)
  | _ => rfl
theorem o_ixL {E : RE α} (l : List α) (i : Int) : ∀ x y, eL E l x → eI i y → Rf (dIx x y) (getL l i) E := by
  rintro _ _ ⟨ds, rfl, r⟩ rfl
  unfold getL
  cases q : atI l i with
  | none => trivial
  | some a => obtain ⟨d, h1, h2⟩ := atI_A2 r q; exact ⟨d, by simp [dIx, h1], h2⟩
theorem o_ixAL {E : RE α} (l : List α) (i : Int) : ∀ x y, eL E l x → eI i y → Rf (dIxA x y) (getL l i) E := fun x y h k => by
  rw [o_ixA (by obtain ⟨ds, rfl, r⟩ := h; intros; simp)]
  exact o_ixL l i x y h k
@[simp] theorem getL_zero (a : α) (l : List α) : getL (a :: l) 0 = .ok a := by simp [getL, atI, ixN]
theorem getL_nat {l : List α} {i : Nat} {a : α} (h : l[i]? = some a) : getL l (i : Int) = .ok a := by
  unfold getL
  rw [atI_nat h]
/-- some item stands at every place, told from either end -/
theorem getL_mem {l : List α} {i : Int} (h : -(l.length : Int) ≤ i) (k : i < l.length) : ∃ a ∈ l, getL l i = .ok a := by
  obtain ⟨j, a, b⟩ := ixN_of h k
  exact ⟨l[j], List.getElem_mem _, by simp [getL, atI, a, b]⟩
theorem r_t (a : List Int) : ∀ d, eR a d → eT eI a d := fun d h => ⟨_, h, A2.fn.mpr rfl⟩
theorem t_r (a : List Int) : ∀ d, eT eI a d → eR a d := fun d ⟨ds, h, r⟩ => by rw [h, A2.fn.mp r]; rfl
theorem o_lenL {E : RE α} (l : List α) : ∀ x, eL E l x → Rf (dLen x) (.ok (l.length : Int)) eI := by rintro _ ⟨ds, rfl, r⟩; exact ⟨_, rfl, by rw [← r.length]; rfl⟩
theorem o_tupL {E : RE α} (l : List α) : ∀ x, eL E l x → Rf (dTuple x) (.ok l) (eT E) := by rintro _ ⟨ds, rfl, r⟩; exact ⟨_, rfl, ds, rfl, r⟩
theorem bls_of : ∀ l : List Bool, D.bls (l.map D.bl) = some l
  | [] => rfl
  | b :: l => by rw [List.map_cons, D.bls, bls_of l]; rfl
theorem o_all (l : List Bool) : ∀ x, eL eB l x → Rf (dAll x) (.ok (l.all fun b => b)) eB := by
  rintro _ ⟨ds, rfl, r⟩; rw [A2.fn.mp r]; exact ⟨_, by show (match D.bls _ with | some ns => _ | none => _) = _; rw [bls_of]; rfl, rfl⟩
def maxLR : List Int → Res Int
  | [] => .bad
  | x :: l => .ok (maxI (x :: l))
theorem o_maxL (l : List Int) : ∀ x, eL eI l x → Rf (dMaxL x) (maxLR l) eI := by
  rintro _ ⟨ds, rfl, r⟩
  rw [A2.fn.mp r]
  cases l with
  | nil => trivial
  | cons y l => exact ⟨_, by show (match D.ints (((y :: l).map D.int)) with | some (n :: ns) => Res.ok (D.int (maxI (n :: ns))) | _ => .bad) = _; rw [ints_of], rfl⟩
open Classical in
noncomputable def catR {α : Type} (a b : List α) : Res (List α) := if Fits (a.length + b.length) then .ok (a ++ b) else .bad
theorem rf_cat {E : RE α} {a b : List α} {ds es : List D} (h : A2 E a ds) (k : A2 E b es) {x : Res D} {C : List D → D} (hx : ds.length + es.length ≤ sizeLine → x = .ok (C (ds ++ es))) {E' : RE (List α)} (hc : ∀ l ds, A2 E l ds → E' l (C ds)) : Rf x (catR a b) E' := by
  unfold catR
  by_cases q : Fits (a.length + b.length)
  · rw [if_pos q]; exact ⟨_, hx (by rw [h.length, k.length]; exact q), hc _ _ (h.append k)⟩
  · rw [if_neg q]; trivial
theorem o_catL {E : RE α} (a b : List α) : ∀ x y, eL E a x → eL E b y → Rf (dAdd x y) (catR a b) (eL E) := by rintro _ _ ⟨ds, rfl, r⟩ ⟨es, rfl, s⟩; exact rf_cat (C := D.lst) r s (fun h => if_pos h) fun l ds h => ⟨ds, rfl, h⟩
theorem o_catF {E : RE α} (a b : List α) : ∀ x y, eL E a x → eL E b y → Rf (dCat x y) (catR a b) (eL E) := by rintro _ _ ⟨ds, rfl, r⟩ ⟨es, rfl, s⟩; exact rf_cat (C := D.lst) r s (fun h => if_pos h) fun l ds h => ⟨ds, rfl, h⟩
theorem o_catT {E : RE α} (a b : List α) : ∀ x y, eT E a x → eT E b y → Rf (dAdd x y) (catR a b) (eT E) := by rintro _ _ ⟨ds, rfl, r⟩ ⟨es, rfl, s⟩; exact rf_cat (C := D.tup) r s (fun h => if_pos h) fun l ds h => ⟨ds, rfl, h⟩
section
variable {ρ : KEnv} {f g : DL.Env → Res D}
/-! slices -/
theorem cutL_A2 {E : RE α} {l : List α} {ds : List D} (h : A2 E l ds) (lo hi : Option Int) : A2 E (cutL l lo hi) (cutL ds lo hi) := by
  unfold cutL
  rw [h.length]
  exact (h.drop _).take _
def Eqv {α : Type} : α → α → Prop := fun a b => b = a
theorem vo_n : EvR ρ oNone (.ok none) Eqv := fun e l => ⟨none, rfl, rfl⟩
theorem vo_s {i : Int} (h : EvR ρ f (.ok i) eI) : EvR ρ (oSome f) (.ok (some i)) Eqv := fun e l => by
  obtain ⟨d, h1, h2⟩ := h e l
  exact ⟨some i, by rw [oSome_app, h1, show d = _ from h2]; rfl, rfl⟩
variable {fl fh : DL.Env → Res (Option Int)} {lo hi : Option Int}
theorem v_cutL {E : RE α} {r : Res (List α)} (h : EvR ρ f r (eL E)) (hl : EvR ρ fl (.ok lo) Eqv) (hh : EvR ρ fh (.ok hi) Eqv) : EvR ρ (eCut f fl fh) (r.bind fun l => .ok (cutL l lo hi)) (eL E) := fun e l => by
  rw [eCut_app]
  refine (h e l).bind fun xs d ⟨ds, h1, h2⟩ => ?_
  obtain ⟨_, a1, rfl⟩ := hl e l
  obtain ⟨_, b1, rfl⟩ := hh e l
  rw [a1, b1, h1]
  exact ⟨_, rfl, _, rfl, cutL_A2 h2 _ _⟩
theorem v_cutT {E : RE α} {r : Res (List α)} (h : EvR ρ f r (eT E)) (hl : EvR ρ fl (.ok lo) Eqv) (hh : EvR ρ fh (.ok hi) Eqv) : EvR ρ (eCut f fl fh) (r.bind fun l => .ok (cutL l lo hi)) (eT E) := fun e l => by
  rw [eCut_app]
  refine (h e l).bind fun xs d ⟨ds, h1, h2⟩ => ?_
  obtain ⟨_, a1, rfl⟩ := hl e l
  obtain ⟨_, b1, rfl⟩ := hh e l
  rw [a1, b1, h1]
  exact ⟨_, rfl, _, rfl, cutL_A2 h2 _ _⟩
theorem v_cutR {r : Res (List Int)} (h : EvR ρ f r eR) (hl : EvR ρ fl (.ok lo) Eqv) (hh : EvR ρ fh (.ok hi) Eqv) : EvR ρ (eCut f fl fh) (r.bind fun l => .ok (cutL l lo hi)) eR :=
  v_imp (v_cutT (v_imp h r_t) hl hh) t_r
theorem v_cutD {r : Res D} (h : EvR ρ f r eD) (hl : EvR ρ fl (.ok lo) Eqv) (hh : EvR ρ fh (.ok hi) Eqv) : EvR ρ (eCut f fl fh) (r.bind fun d => dCut lo hi d) eD := fun e l => by
  rw [eCut_app]
  refine (h e l).bind fun x d hd => ?_
  obtain ⟨_, a1, rfl⟩ := hl e l
  obtain ⟨_, b1, rfl⟩ := hh e l
  rw [a1, b1, show d = x from hd]
  exact o_raw1 (dCut _ _) x x rfl
/-! what is walked -/
theorem v_seqL {E : RE α} {r : Res (List α)} (h : EvR ρ f r (eL E)) : EvR ρ (iSeq f) r (A2 E) := fun e l => by
  have := h e l
  rw [iSeq_app]
  cases r with
  | ok a => obtain ⟨d, e1, ds, rfl, h1⟩ := this; rw [e1]; exact ⟨ds, rfl, h1⟩
  | exc c fs => rw [show f e = _ from this]; rfl
  | bad => trivial
def rangeI (lo hi : Int) : List Int := (List.range (hi - lo).toNat).map fun i => lo + (i : Nat)
open Classical in
noncomputable def rng1 (n : Int) : Res (List Int) := if Rg n then .ok (rangeI 0 n) else .bad
theorem rangeI_A2 (m n : Int) : A2 eI (rangeI m n) (rangeD m n) := A2.fn.mpr (by unfold rangeI rangeD; rw [List.map_map]; rfl)
theorem v_rng1 {r : Res Int} (h : EvR ρ f r eI) : EvR ρ (iRange1 f) (r.bind rng1) (A2 eI) := fun e l => by
  rw [iRange1_app]
  refine (h e l).bind fun n d hd => ?_
  rw [show d = _ from hd]
  unfold rng1
  by_cases k : Rg n
  · rw [if_pos k]; exact ⟨_, range1D_int n k, rangeI_A2 0 n⟩
  · rw [if_neg k]; trivial
theorem v_rng1p {n : Int} (h : EvR ρ f (.ok n) eI) : EvR ρ (iRange1 f) (rng1 n) (A2 eI) := v_rng1 h
/-- range(n) whose number is small enough: no questions asked -/
theorem rng1_ok {n : Int} (h : -1000000000 ≤ n) (k : n ≤ 1000000000) : rng1 n = .ok (rangeI 0 n) := if_pos (Rg.of h k)
end
/-! ### lists that are changed -/
open Classical in
noncomputable def appR {α : Type} (l : List α) (a : α) : Res (List α) := if l.length < sizeLine then .ok (l ++ [a]) else .bad
theorem appR_ok {l : List α} {a : α} (h : l.length ≤ 10000000) : appR l a = .ok (l ++ [a]) := if_pos (by rw [PySem.sizeLine_eq]; omega)
section
variable {ρ : KEnv}
theorem sMut_J {al : List Nat} {i : Nat} {gm : List D → List D → Option (List D)} {fs : DL.Env → Res (List D)} {E : RE α} {l : List α} {Q : β → List D → Prop} {r : Res β} {t : β → Res (List α)}
    (hf : (fzK al ρ)[i]? = some (some (ow (eL E) l))) (hr : EvR ρ fs r Q) (hg : ∀ ds b es l', A2 E l ds → Q b es → t b = .ok l' → ∃ ds', gm ds es = some ds' ∧ A2 E l' ds') (hn : ∀ b c fs, t b ≠ .exc c fs) : J ρ (sMut al i gm fs) (r.bind t) (PN fun l' => (fzK al ρ).set i (some (ow (eL E) l'))) := fun e le => by
  have lf := le.fz al
  obtain ⟨d, o, h1, ⟨ds, h2, h3⟩, h4⟩ := lf.get hf
  subst h2 h4
  have := hr e le
  have main : sMut al i gm fs e = (match fs e with | .ok es => (match gm ds es with | some ys => .nx ((fz al e).set i (some (.lst ys, true))) | none => .bad) | .exc c fs' => .ex c fs' (fz al e) | .bad => .bad) := by
    rw [sMut_app, ownL_app, h1]
    dsimp only
    rw [sE_app]
    cases fs e <;> rfl
  rw [main]
  cases r with
  | ok b =>
    obtain ⟨es, h5, h6⟩ := this
    rw [h5]
    show JM (t b) _ _
    cases q : t b with
    | ok l' =>
      obtain ⟨ds', h7, h8⟩ := hg ds b es l' h3 h6 q
      dsimp only
      rw [h7]
      exact ⟨_, rfl, lf.set i ⟨⟨ds', rfl, h8⟩, rfl⟩⟩
    | exc c fs' => exact absurd q (hn _ _ _)
    | bad => trivial
  | exc c fs' => rw [show fs e = _ from this]; exact ⟨_, rfl⟩
  | bad => trivial
theorem appR_nx (l : List α) (a : α) (c : String) (fs : List D) : appR l a ≠ .exc c fs := by unfold appR; split <;> simp
theorem d_app {al : List Nat} {i : Nat} {f : DL.Env → Res D} {E : RE α} {l : List α} {r : Res α} (hf : (fzK al ρ)[i]? = some (some (ow (eL E) l))) (h : EvR ρ f r E) : J ρ (sMut al i gAppend (aCons f aNil)) (r.bind fun a => appR l a) (PN fun l' => (fzK al ρ).set i (some (ow (eL E) l'))) :=
  sMut_J hf (vq_1 h) (fun ds b es l' h1 h2 h3 => by
    obtain ⟨d, rfl, h4⟩ := h2
    unfold appR at h3
    split at h3
    · rename_i hl
      cases h3
      exact ⟨ds ++ [d], by unfold gAppend; dsimp only; rw [if_pos (by rw [h1.length]; exact hl)], h1.append ⟨d, [], rfl, h4, rfl⟩⟩
    · cases h3) (fun b => appR_nx l b)
theorem d_appP {al : List Nat} {i : Nat} {f : DL.Env → Res D} {E : RE α} {l : List α} {a : α} (hf : (fzK al ρ)[i]? = some (some (ow (eL E) l))) (h : EvR ρ f (.ok a) E) : J ρ (sMut al i gAppend (aCons f aNil)) (appR l a) (PN fun l' => (fzK al ρ).set i (some (ow (eL E) l'))) := d_app hf h
/-- l[k] = v -/
def putLR {α : Type} (l : List α) (k : Int) (v : α) : Res (List α) := match ixN l.length k with
  | some j => .ok (l.set j v)
  | none => .bad
theorem d_putLP {al : List Nat} {i : Nat} {fk fv : DL.Env → Res D} {E : RE α} {l : List α} {k : Int} {v : α} (hf : (fzK al ρ)[i]? = some (some (ow (eL E) l))) (hk : EvR ρ fk (.ok k) eI) (hv : EvR ρ fv (.ok v) E) : J ρ (sPutL al i fk fv) (putLR l k v) (PN fun l' => (fzK al ρ).set i (some (ow (eL E) l'))) := fun e le => by
  have lf := le.fz al
  obtain ⟨d, o, h1, ⟨ds, h2, h3⟩, h4⟩ := lf.get hf
  subst h2 h4
  obtain ⟨x, a1, rfl⟩ := hk e le
  obtain ⟨y, b1, b2⟩ := hv e le
  unfold putLR
  cases q : ixN l.length k with
  | none => trivial
  | some j =>
    have q' : ixN ds.length k = some j := by rw [h3.length]; exact q
    refine ⟨(fz al e).set i (some (.lst (ds.set j y), true)), ?_, lf.set i ⟨⟨_, rfl, h3.set b2 j⟩, rfl⟩⟩
    rw [sPutL_app, ownL_app, h1]
    dsimp only
    rw [sE_app, a1, b1]
    simp only [Res.bind_ok]
    rw [q']
theorem d_putL {al : List Nat} {i : Nat} {fk fv : DL.Env → Res D} {E : RE α} {l : List α} {rk : Res Int} {rv : Res α} (hf : (fzK al ρ)[i]? = some (some (ow (eL E) l))) (hk : EvR ρ fk rk eI) (hv : EvR ρ fv rv E) : J ρ (sPutL al i fk fv) (rv.bind fun v => rk.bind fun k => putLR l k v) (PN fun l' => (fzK al ρ).set i (some (ow (eL E) l'))) := fun e le => by
  have lf := le.fz al
  obtain ⟨d, o, h1, ⟨ds, h2, h3⟩, h4⟩ := lf.get hf
  subst h2 h4
  have hk' := hk e le
  have hv' := hv e le
  rw [sPutL_app, ownL_app, h1]
  dsimp only
  rw [sE_app]
  cases rv with
  | ok v =>
    obtain ⟨y, b1, b2⟩ := hv'
    rw [b1]
    cases rk with
    | ok k =>
      obtain ⟨x, a1, rfl⟩ := hk'
      rw [a1]
      show JM (putLR l k v) _ _
      unfold putLR
      cases q : ixN l.length k with
      | none => trivial
      | some j =>
        have q' : ixN ds.length k = some j := by rw [h3.length]; exact q
        exact ⟨_, by simp only [Res.bind_ok]; rw [q'], lf.set i ⟨⟨_, rfl, h3.set b2 j⟩, rfl⟩⟩
    | exc c fs => rw [show fk e = _ from hk']; exact ⟨_, rfl⟩
    | bad => trivial
  | exc c fs => rw [show fv e = _ from hv']; exact ⟨_, rfl⟩
  | bad => trivial
end
/-! ### dicts -/
structure KeyF {α : Type} (t : Bool) (f : α → D) : Prop where
  inj : ∀ a b, f a = f b → a = b
  ok : ∀ a, D.keyOk t (f a) = true
theorem KeyF.int : KeyF false D.int := ⟨fun a b h => by injection h, fun a => rfl⟩
theorem KeyF.str : KeyF false D.str := ⟨fun a b h => by injection h, fun a => rfl⟩
theorem KeyF.row : KeyF true ans := ⟨fun a b h => ans_inj h, ans_key⟩
section
variable [DecidableEq α] {t : Bool} {f : α → D} {E : RE β}
variable {ρ : KEnv}
end
end
end DL

/-! Typed readings: more operations, casts. -/
namespace DL
open PySem PySem.Spec PyProof.Rows L2
open PySem.Builtin.Int (intBits)

theorem Res.assoc {α β γ : Type} (r : Res α) (f : α → Res β) (g : β → Res γ) : (r.bind f).bind g = r.bind fun a => (f a).bind g := by cases r <;> rfl
@[simp] theorem pow_10_30 : dPow (.int 10) (.int 30) = .ok (.int (10 ^ 30)) := dPow_of (by decide +kernel)
@[simp] theorem pow_10_12 : dPow (.int 10) (.int 12) = .ok (.int (10 ^ 12)) := dPow_of (by decide +kernel)
@[simp] theorem pow_10_6 : dPow (.int 10) (.int 6) = .ok (.int (10 ^ 6)) := dPow_of (by decide +kernel)
section
variable {α β γ : Type} {ρ : KEnv}
theorem v_eqr {f : DL.Env → Res β} {r r' : Res α} {E : α → β → Prop} (h : EvR ρ f r E) (e : r = r') : EvR ρ f r' E := e ▸ h
theorem v_opl {fa fb : DL.Env → Res D} {g : D → D → Res D} {Ea : RE α} {Eb : RE β} {Ec : RE γ} {ra : Res α} {b : β} {gt : α → Res γ} (hg : ∀ a x y, Ea a x → Eb b y → Rf (g x y) (gt a) Ec) (ha : EvR ρ fa ra Ea) (hb : EvR ρ fb (.ok b) Eb) :
    EvR ρ (eOp g fa fb) (ra.bind gt) Ec := fun e l => (ha e l).bind fun a x h1 => by
  obtain ⟨y, h2, h3⟩ := hb e l
  rw [h2]
  exact hg a x y h1 h3
/-- a < b < c -/
theorem v_chain {g g' : D → D → Res D} {fa fb fc : DL.Env → Res D} {r r' : Res Bool} (h : EvR ρ (eOp g fa fb) r eB) (k : EvR ρ (eOp g' fb fc) r' eB) : EvR ρ (eChain g g' fa fb fc) (r.bind fun z => if z = true then r' else .ok false) eB := fun e l => by
  have h1 := h e l
  have h2 := k e l
  unfold eChain
  unfold eOp at h1 h2
  cases qa : fa e with
  | ok x =>
    rw [qa] at h1
    cases qb : fb e with
    | ok y =>
      rw [qb] at h1 h2
      simp only [Res.bind_ok] at h1 h2 ⊢
      refine h1.bind fun a d hd => ?_
      rw [show d = _ from hd]
      show Rf ((if a = true then _ else _ : Res D)) _ eB
      cases a with
      | true =>
        rw [if_pos rfl, if_pos rfl]
        exact h2
      | false => exact ⟨_, rfl, rfl⟩
    | exc c fs => rw [qb] at h1; cases r with
      | ok b => obtain ⟨_, z, _⟩ := h1; cases z
      | exc c' fs' => simp only [Res.bind_ok, Res.bind_exc] at h1 ⊢; rw [show Res.exc c fs = _ from h1]; rfl
      | bad => trivial
    | bad => rw [qb] at h1; cases r with
      | ok b => obtain ⟨_, z, _⟩ := h1; cases z
      | exc c' fs' => cases h1
      | bad => trivial
  | exc c fs => rw [qa] at h1; cases r with
    | ok b => obtain ⟨_, z, _⟩ := h1; cases z
    | exc c' fs' => simp only [Res.bind_exc] at h1 ⊢; rw [show Res.exc c fs = _ from h1]; rfl
    | bad => trivial
  | bad => rw [qa] at h1; cases r with
    | ok b => obtain ⟨_, z, _⟩ := h1; cases z
    | exc c' fs' => cases h1
    | bad => trivial
theorem b_orM {fa fb : DL.Env → Res Bool} {P : Prop} [Decidable P] {rb : Res Bool} (ha : EvR ρ fa (.ok (decide P)) Tr) (hb : EvR ρ fb rb Tr) : EvR ρ (bOr fa fb) (if P then .ok true else rb) Tr := fun e l => by
  have := b_or ha hb e l
  rw [show (Res.ok (decide P)).bind (fun b => if b = true then .ok true else rb) = (if P then .ok true else rb) by by_cases h : P <;> simp [h]] at this
  exact this
theorem v_andM {fa fb : DL.Env → Res D} {P : Prop} [Decidable P] {rb : Res Bool} (ha : EvR ρ fa (.ok (decide P)) eB) (hb : EvR ρ fb rb eB) : EvR ρ (eAnd fa fb) (if P then rb else .ok false) eB := fun e l => by
  have := v_and ha hb e l
  rw [show (Res.ok (decide P)).bind (fun b => if b = true then rb else .ok false) = (if P then rb else .ok false) by by_cases h : P <;> simp [h]] at this
  exact this
/-! shares written down -/
/-! readings by a function -/
def Fun {α : Type} (E : RE α) (f : α → D) : Prop := ∀ a d, E a d ↔ eD (f a) d
def FunQ {α : Type} (Q : α → List D → Prop) (f : α → List D) : Prop := ∀ a d, Q a d ↔ d = f a
def fLst {α : Type} (f : α → D) : List α → D := fun l => .lst (l.map f)
def fTup {α : Type} (f : α → D) : List α → D := fun l => .tup (l.map f)
def fPr {α : Type} (f : α → List D) : α → D := fun a => .tup (f a)
def fOne {α : Type} (f : α → D) : α → List D := fun a => [f a]
def fCons {α β : Type} (f : α → D) (g : β → List D) : α × β → List D := fun p => f p.1 :: g p.2
theorem Fun.int : Fun eI D.int := fun a d => Iff.rfl
theorem Fun.bl : Fun eB D.bl := fun a d => Iff.rfl
theorem Fun.str : Fun eS D.str := fun a d => Iff.rfl
theorem Fun.row : Fun eR ans := fun a d => Iff.rfl
theorem Fun.raw : Fun eD (fun d => d) := fun a d => Iff.rfl
theorem Fun.non : Fun eN (fun _ => D.non) := fun a d => Iff.rfl
theorem a2_fun {E : RE α} {f : α → D} (h : Fun E f) (l : List α) (ds : List D) : A2 E l ds ↔ ds = l.map f := by
  rw [← A2.fn]
  exact ⟨A2.imp fun a d => (h a d).mp, A2.imp fun a d => (h a d).mpr⟩
theorem Fun.lst {E : RE α} {f : α → D} (h : Fun E f) : Fun (eL E) (fLst f) := fun a d =>
  ⟨fun ⟨ds, e, r⟩ => by rw [e, (a2_fun h a ds).mp r]; rfl, fun e => ⟨_, e, (a2_fun h a _).mpr rfl⟩⟩
theorem Fun.tup {E : RE α} {f : α → D} (h : Fun E f) : Fun (eT E) (fTup f) := fun a d =>
  ⟨fun ⟨ds, e, r⟩ => by rw [e, (a2_fun h a ds).mp r]; rfl, fun e => ⟨_, e, (a2_fun h a _).mpr rfl⟩⟩
theorem FunQ.one {E : RE α} {f : α → D} (h : Fun E f) : FunQ (q1 E) (fOne f) := fun a d =>
  ⟨fun ⟨x, e, r⟩ => by rw [e, show x = _ from (h a x).mp r]; rfl, fun e => ⟨_, e, (h a _).mpr rfl⟩⟩
theorem FunQ.c {E : RE α} {f : α → D} {Q : β → List D → Prop} {g : β → List D} (h : Fun E f) (k : FunQ Q g) : FunQ (qC E Q) (fCons f g) := fun a d =>
  ⟨fun ⟨x, y, e, r, s⟩ => by rw [e, show x = _ from (h _ x).mp r, (k _ y).mp s]; rfl, fun e => ⟨_, _, e, (h _ _).mpr rfl, (k _ _).mpr rfl⟩⟩
theorem Fun.pr {Q : α → List D → Prop} {f : α → List D} (h : FunQ Q f) : Fun (eQ Q) (fPr f) := fun a d =>
  ⟨fun ⟨ds, e, r⟩ => by rw [e, (h a ds).mp r]; rfl, fun e => ⟨_, e, (h a _).mpr rfl⟩⟩
/-! something or nothing -/
def optR {α : Type} : Option α → Res α
  | some a => .ok a
  | none => .bad
@[simp] theorem optR_some (a : α) : optR (some a) = .ok a := rfl
/-! texts -/
/-! keys -/
/-! tuples of raw data taken apart -/
/-! kinds of things -/
section
variable {E : RE α} {Q : α → List D → Prop}
theorem isBool_Bool (a : Bool) : ∀ x, eB a x → Rf (isBool x) (.ok true) eB := by rintro _ rfl; exact ⟨_, rfl, rfl⟩
end
/-! dicts: displays, copies, equality -/
/-! slices with a step -/
end
end DL

/-! What typed reckonings come to: they end well, and with what. -/
namespace DL
open PySem PySem.Spec PyProof.Rows L2
open PySem.Builtin.Int (intBits)
/-- it ends well, with what P says -/
def Ok {α : Type} (r : Res α) (P : α → Prop) : Prop := ∃ a, r = .ok a ∧ P a
section
variable {α β S R : Type}
theorem Ok.ok {a : α} {P : α → Prop} (h : P a) : Ok (.ok a) P := ⟨a, rfl, h⟩
theorem Ok.of {r : Res α} {a : α} {P : α → Prop} (e : r = .ok a) (h : P a) : Ok r P := ⟨a, e, h⟩
theorem Ok.bind {r : Res α} {f : α → Res β} {P : α → Prop} {Q : β → Prop} (h : Ok r P) (k : ∀ a, P a → Ok (f a) Q) : Ok (r.bind f) Q := by
  obtain ⟨a, rfl, h⟩ := h
  exact k a h
theorem Ok.imp {r : Res α} {P Q : α → Prop} (h : Ok r P) (k : ∀ a, P a → Q a) : Ok r Q := by
  obtain ⟨a, e, h⟩ := h
  exact ⟨a, e, k a h⟩
theorem Ok.eq {r : Res α} {a : α} (h : Ok r fun x => x = a) : r = .ok a := by obtain ⟨b, e, rfl⟩ := h; exact e
theorem Ok.get {r : Res α} {P : α → Prop} (h : Ok r P) : ∃ a, r = .ok a ∧ P a := h
/-! numbers -/
theorem Sm.lit {i : Int} (n : Nat) (h : i.natAbs < 2 ^ n) : Sm n i := h
theorem sm64 {i : Int} (h : -1000000000000000000 ≤ i) (k : i ≤ 1000000000000000000) : Sm 64 i := by
  have e : (2 : Nat) ^ 64 = 18446744073709551616 := by decide
  show i.natAbs < 2 ^ 64
  omega
theorem mulR_s {i j : Int} (h : -1000000000000000000 ≤ i) (k : i ≤ 1000000000000000000) (h' : -1000000000000000000 ≤ j) (k' : j ≤ 1000000000000000000) : mulR i j = .ok (i * j) := mulR_ok (sm64 h k) (sm64 h' k') (by decide)
theorem divR_s {i j : Int} (h : 0 < j) (k : j ≤ 1000000000000000000) : divR i j = .ok (i / j) := divR_pos h (sm64 (by omega) k) (by decide)
theorem Sm.sum : ∀ {l : List Int} {n : Nat}, (∀ z ∈ l, Sm n z) → l.length ≤ 64 → Sm (n + 6) l.sum := by
  have gen : ∀ (l : List Int) (n : Nat), (∀ z ∈ l, Sm n z) → l.sum.natAbs ≤ l.length * 2 ^ n := by
    intro l n
    induction l with
    | nil => intro _; exact Nat.zero_le _
    | cons z l ih =>
      intro h
      have a := ih fun y hy => h y (List.mem_cons_of_mem _ hy)
      have b : z.natAbs < 2 ^ n := h z List.mem_cons_self
      rw [List.sum_cons, List.length_cons, Nat.succ_mul]
      omega
  intro l n h hl
  by_cases hz : l = []
  · subst hz; show (0 : Int).natAbs < _; exact Nat.two_pow_pos _
  have a := gen l n h
  by_cases h63 : l.length ≤ 63
  · show l.sum.natAbs < 2 ^ (n + 6)
    rw [Nat.pow_add]
    have : l.length * 2 ^ n ≤ 63 * 2 ^ n := Nat.mul_le_mul_right _ h63
    have := Nat.two_pow_pos n
    omega
  · show l.sum.natAbs < 2 ^ (n + 6)
    have strict : ∀ (l : List Int), l ≠ [] → (∀ z ∈ l, Sm n z) → l.sum.natAbs < l.length * 2 ^ n := by
      intro l
      induction l with
      | nil => intro h; exact absurd rfl h
      | cons z l ih =>
        intro _ h
        have b : z.natAbs < 2 ^ n := h z List.mem_cons_self
        have a := gen l n fun y hy => h y (List.mem_cons_of_mem _ hy)
        rw [List.sum_cons, List.length_cons, Nat.succ_mul]
        omega
    have := strict l hz h
    rw [Nat.pow_add]
    have : l.length * 2 ^ n ≤ 64 * 2 ^ n := Nat.mul_le_mul_right _ hl
    omega
theorem sm_bits {z : Int} {n : Nat} (h : intBits z ≤ n) : Sm n z := Sm.bits.mpr h
/-! lists -/
theorem fits_of {n : Nat} (h : n ≤ 10000000) : Fits n := by unfold Fits; rw [PySem.sizeLine_eq]; omega
theorem rangeI_nat (n : Nat) : rangeI 0 (n : Int) = (List.range n).map fun (i : Nat) => (i : Int) := by
  unfold rangeI
  simp
/-- each item by itself -/
theorem Ok.mapR {f : α → Res β} {P : α → β → Prop} : ∀ {l : List α}, (∀ a ∈ l, Ok (f a) (P a)) → Ok (mapR l f) fun bs => A2 P l bs
  | [], _ => ⟨[], rfl, rfl⟩
  | a :: l, h => by
    obtain ⟨b, e, hb⟩ := h a List.mem_cons_self
    obtain ⟨bs, e', hbs⟩ := Ok.mapR (l := l) fun x hx => h x (List.mem_cons_of_mem _ hx)
    exact ⟨b :: bs, by unfold DL.mapR; rw [e, e']; rfl, b, bs, rfl, hb, hbs⟩
theorem Ok.compR {f : α → Res β} {P : α → β → Prop} {Q : List β → Prop} {l : List α} (hl : l.length ≤ 10000000) (h : ∀ a ∈ l, Ok (f a) (P a)) (q : ∀ bs, A2 P l bs → Q bs) : Ok (compR l f) Q := by
  obtain ⟨bs, e, hb⟩ := Ok.mapR h
  refine ⟨bs, ?_, q bs hb⟩
  unfold DL.compR
  rw [if_pos (fits_of hl), e]
  rfl
/-- a loop with an invariant over the items done -/
theorem Ok.forR {f : α → S → Res S} {l : List α} {s : S} (I : List α → S → Prop) (h0 : I [] s) (h : ∀ d a r s, l = d ++ a :: r → I d s → Ok (f a s) (I (d ++ [a]))) : Ok (forR l s f) (I l) := by
  have gen : ∀ (r d : List α) (s : S), l = d ++ r → I d s → Ok (DL.forR r s f) (I l) := by
    intro r
    induction r with
    | nil => intro d s e hI; rw [e, List.append_nil]; exact ⟨s, rfl, hI⟩
    | cons a r ih =>
      intro d s e hI
      unfold DL.forR
      exact (h d a r s e hI).bind fun s' hs' => ih (d ++ [a]) s' (by rw [e, List.append_assoc]; rfl) hs'
  exact gen l [] s rfl h0
theorem forX_unit {f : α → Unit → Res (Oc Unit R)} {l : List α} (h : ∀ a ∈ l, f a () = .ok (.nx ())) : forX l () f = .ok (.nx ()) := by
  induction l with
  | nil => rfl
  | cons a l ih => unfold DL.forX; rw [h a List.mem_cons_self]; exact ih fun x hx => h x (List.mem_cons_of_mem _ hx)
@[simp] theorem thenX_nx {T : Type} (s : S) (m : R → T) (k : S → Res T) : thenX (.ok (.nx s)) m k = k s := Eq.trans rfl rfl
@[simp] theorem thenX_rt {T : Type} (v : R) (m : R → T) (k : S → Res T) : thenX (.ok (.rt v) : Res (Oc S R)) m k = .ok (m v) := Eq.trans rfl rfl
theorem Ok.thenX {T : Type} {r : Res (Oc S R)} {m : R → T} {k : S → Res T} {P : S → Prop} {Q : T → Prop} (h : Ok r fun o => ∃ s', o = .nx s' ∧ P s') (q : ∀ s, P s → Ok (k s) Q) : Ok (DL.thenX r m k) Q := by
  obtain ⟨_, rfl, s, rfl, hs⟩ := h
  exact q s hs
/-! while -/
end
end DL
namespace DL
end DL
namespace DL
theorem fTup_id : fTup (fun d => d) = D.tup := by funext l; show D.tup (l.map _) = _; rw [List.map_id']
theorem fTup_ap {α : Type} (f : α → D) (l : List α) : fTup f l = .tup (l.map f) := rfl
theorem fPr_ap {α : Type} (f : α → List D) (a : α) : fPr f a = .tup (f a) := rfl
theorem fCons_ap {α β : Type} (f : α → D) (g : β → List D) (a : α) (b : β) : fCons f g (a, b) = f a :: g b := rfl
theorem fOne_ap {α : Type} (f : α → D) (a : α) : fOne f a = [f a] := rfl
end DL

/-! Typed readings: sets of lists, max with a default. -/
namespace DL
open PySem PySem.Spec PyProof.Rows L2
section
variable {α : Type}
theorem rep_A2 {E : RE α} {l : List α} {ds : List D} (h : A2 E l ds) : ∀ n, A2 E (List.replicate n l).flatten (List.replicate n ds).flatten
  | 0 => rfl
  | n + 1 => by rw [List.replicate_succ, List.replicate_succ, List.flatten_cons, List.flatten_cons]; exact h.append (rep_A2 h n)
/-! slices whose bounds may fail -/
end
end DL

/-! readings: a tuple times a number; more ways -/
namespace DL
open PySem PySem.Spec PyProof.Rows L2
section
variable {α : Type}
open Classical in
/-- a tuple times a number -/
noncomputable def repT (l : List α) (k : Int) : Res (List α) := if k = 1 then .ok l else if 2 ≤ k ∧ k ≤ 1000 ∧ l ≠ [] ∧ l.length ≤ 1000 then .ok (List.replicate k.toNat l).flatten else .bad
theorem o_repT {E : RE α} (l : List α) (k : Int) : ∀ x y, eT E l x → eI k y → Rf (dRepT x y) (repT l k) (eT E) := by
  rintro _ _ ⟨ds, rfl, r⟩ rfl
  unfold repT
  dsimp only [dRepT]
  by_cases h1 : k = 1
  · rw [if_pos h1, if_pos h1]; exact ⟨_, rfl, ds, rfl, r⟩
  · rw [if_neg h1, if_neg h1]
    by_cases h : 2 ≤ k ∧ k ≤ 1000 ∧ l ≠ [] ∧ l.length ≤ 1000
    · rw [if_pos h, if_pos ⟨h.1, h.2.1, fun z => h.2.2.1 (List.eq_nil_of_length_eq_zero (by rw [← r.length, z]; rfl)), by rw [r.length]; exact h.2.2.2⟩]
      exact ⟨_, rfl, _, rfl, rep_A2 r _⟩
    · rw [if_neg h]; trivial
end
end DL

/-! readings: a list handed on and given back -/
namespace DL
open PySem PySem.Spec PyProof.Rows L2
section
variable {α β R S T : Type} {ρ : KEnv} {c : DL.Env → Out}
end
end DL
namespace DL
open PySem PySem.Spec PyProof.Rows L2
section
theorem pls_strs (n : Nat) : ∀ l : List Str, (∀ z ∈ l, PyData.strOk z = true) → D.pls (l.map D.str) n = true
  | [], _ => rfl
  | a :: l, h => by
    show (D.pl (.str a) n && D.pls (l.map D.str) n) = true
    rw [pls_strs n l (fun z hz => h z (List.mem_cons_of_mem _ hz)), Bool.and_true]
    exact h a List.mem_cons_self
end
end DL

/-! readings: values of dicts -/
namespace DL
open PySem PySem.Spec PyProof.Rows L2
section
end
end DL

/-! readings: lists of ranges, sorted texts, a tuple's index -/
namespace DL
open PySem PySem.Spec PyProof.Rows L2
section
variable {α β : Type} {ρ : KEnv} {f g : DL.Env → Res D}
end
end DL

/-! readings: dicts that are walked -/
namespace DL
open PySem PySem.Spec PyProof.Rows L2
section
variable {α β : Type} {ρ : KEnv} {g : DL.Env → Res D} {b : Bool} {f : α → D} {Ek : RE α} {E : RE β} {r : Res (List (α × β))}
end
end DL

/-! shares that may be a module's constants -/
namespace DL
open PySem PySem.Spec PyProof.Rows L2
end DL

/-! a module's constant dict with text keys and whole numbers: x in T, T[x] -/
namespace DL
open PySem PySem.Spec PyProof.Rows L2
structure DctOk (K : PySem.W.Frag) (w : World) (mg : Str → Option Value) (x : String) (tab : List (Str × Int)) : Prop where
  ok : ∃ (d : Addr) (es : Array DictEntry) (n : Nat), mg (Str.ofString x) = some (.ref d) ∧ KDict K w d es n ∧ ∀ z, match getG tab z with
    | some i => ∃ t, PySem.W.nsIn K d z = some (some (.int i t))
    | none => PySem.W.nsIn K d z = some none
theorem keyOf_of {P : Params} : ∀ {l : List DictEntry} {ks : List Str}, l.map He.keyOf = He.keysIn P ks → ∀ e ∈ l, ∃ k ∈ ks, ∃ t, e.key = .str k t
  | [], _, _, e, he => by cases he
  | e :: r, [], h, _, _ => by cases h
  | e :: r, k :: ks, h, e', he => by
    have h1 : He.keyOf e :: r.map He.keyOf = some (k, PyData.keyHash P k) :: He.keysIn P ks := h
    injection h1 with h2 h3
    rcases List.mem_cons.mp he with rfl | he
    · unfold He.keyOf at h2
      split at h2
      · rename_i x t q
        obtain ⟨h5, _⟩ := Prod.mk.inj (Option.some.inj h2)
        exact ⟨k, List.mem_cons_self, t, by rw [q, h5]⟩
      · cases h2
    · obtain ⟨k', hk, t, q⟩ := keyOf_of h3 e' he
      exact ⟨k', List.mem_cons_of_mem _ hk, t, q⟩
theorem dicW_at {K : PySem.W.Frag} {a : Addr} {l : List (Option (Str × Int))} (h : He.dicW K a = some l) : ∃ es n sl, K.lookup a = some ⟨.type "dict", none, .dict es n, sl⟩ ∧ es.toList.map He.keyOf = l := by
  unfold He.dicW at h
  split at h
  · rename_i c es n sl q
    cases z : decide (c = "dict") && (sl.isEmpty && !(a == sysModules)) with
    | false => rw [z] at h; cases h
    | true =>
      rw [z] at h
      rw [Bool.and_eq_true, decide_eq_true_eq] at z
      obtain ⟨rfl, _⟩ := z
      exact ⟨es, n, sl, q, Option.some.inj h⟩
  · cases h
theorem ns_none {K : PySem.W.Frag} {P : Params} {a : Addr} {ks : List Str} (h : He.dicW K a = some (He.keysIn P ks)) {z : Str} (hz : z ∉ ks) : PySem.W.nsIn K a z = some none := by
  obtain ⟨es, n, sl, q, hk⟩ := dicW_at h
  have key := keyOf_of hk
  unfold PySem.W.nsIn
  rw [q]
  dsimp only
  have f : es.toList.find? (·.key.isStr z) = none := by
    rw [List.find?_eq_none]
    intro e he
    obtain ⟨k, hk, t, ek⟩ := key e he
    rw [ek]
    have : k ≠ z := fun y => hz (y ▸ hk)
    simp [Value.isStr, this]
  have g : es.toList.any (·.refKey) = false := by
    rw [List.any_eq_false]
    intro e he
    obtain ⟨k, hk, t, ek⟩ := key e he
    simp [DictEntry.refKey, ek]
  rw [f]
  dsimp only
  rw [g]
  rfl
theorem dct_mk {K : PySem.W.Frag} {w : World} {mg : Str → Option Value} {x : String} {a : Addr} {tab : List (Str × Int)} (hm : mg (Str.ofString x) = some (.ref a)) (h : He.dicW K a = some (He.keysIn w.params (tab.map (·.1)))) (nd : (tab.map (·.1)).Nodup)
    (vals : ∀ p ∈ tab, ∃ t, PySem.W.nsIn K a p.1 = some (some (.int p.2 t))) : DctOk K w mg x tab := by
  obtain ⟨es, n, D⟩ := He.dicW_ok h
  refine ⟨a, es, n, hm, D, fun z => ?_⟩
  cases hg : getG tab z with
  | none => exact ns_none h fun hz => by have := get_someG.mpr hz; rw [hg] at this; cases this
  | some i =>
    unfold getG at hg
    obtain ⟨p, hp, e⟩ := Option.map_eq_some_iff.mp hg
    have hk : p.1 = z := by simpa using List.find?_some hp
    obtain ⟨t, ht⟩ := vals p (List.mem_of_find?_eq_some hp)
    rw [hk, e] at ht
    exact ⟨t, ht⟩
def dNotInC (tab : List (Str × Int)) : D → Res D
  | .str z => .ok (.bl (!(getG tab z).isSome))
  | _ => .bad
def dAtC (tab : List (Str × Int)) : D → Res D
  | .str z => match getG tab z with
    | some i => .ok (.int i)
    | none => .bad
  | _ => .bad
section
variable {X : Cx} {W : WX} {A : Nat → Prop} {a : Expr} {pos p : Pos} {x : String} {tab : List (Str × Int)} {f : DL.Env → Res D}
def bTestC (g : D → Res D) (f : DL.Env → Res D) : DL.Env → Res Bool := fun e => (e1 g f e).bind D.asB
theorem dt_notInC (c : DctOk X.K X.w X.mg x tab) (hg : Gl X (Str.ofString x)) (ha : DR X W A a f) (hd : (Str.ofString x == ("__debug__" : Str)) = false := by decide) : DT X W A (.Compare a [.NotIn] [.Name (Str.ofString x) p] pos) (bTestC (dNotInC tab) f) := by
  obtain ⟨d, es, n, h1, h2, h3⟩ := c.ok
  refine (pt_cmpR (op_notIn_kd h2) ha (pe_glob hg h1 (v := .ref d) rfl hd) rfl).imp fun σ H Q h => ?_
  obtain ⟨e, G, E, q⟩ := test_of h
  refine ⟨e, G, E, q.split.imp fun k H1 G1 x1 q1 y ry => ?_⟩
  cases k with
  | str z =>
    cases (show y = .str z from ry)
    have := h3 z
    dsimp only [dNotInC] at q1
    cases hz : getG tab z with
    | none => rw [hz] at this q1; exact ⟨z, none, rfl, rfl, this, q1.val x1.gh rfl⟩
    | some i => rw [hz] at this q1; obtain ⟨t, ht⟩ := this; exact ⟨z, some _, rfl, rfl, ht, q1.val x1.gh rfl⟩
  | _ => exact (show False from q1).elim
theorem de_atC (c : DctOk X.K X.w X.mg x tab) (hg : Gl X (Str.ofString x)) (ha : DR X W A a f) (hs : PlainIx a := by exact fun _ _ => rfl) (hd : (Str.ofString x == ("__debug__" : Str)) = false := by decide) : DE X W A (.Subscript (.Name (Str.ofString x) p) a pos) (e1 (dAtC tab) f) := by
  obtain ⟨d, es, n, h1, h2, h3⟩ := c.ok
  refine (pe_ix ix_kdict (pe_glob hg h1 (v := .ref d) rfl hd) ha hs).imp fun σ H Q ⟨e, G, E, q⟩ => ⟨e, G, E, q.split.imp fun k H1 G1 x1 q1 y ry => ?_⟩
  cases k with
  | str z =>
    cases (show y = .str z from ry)
    have := h3 z
    dsimp only [dAtC] at q1
    cases hz : getG tab z with
    | none => rw [hz] at q1; exact (show False from q1).elim
    | some i =>
      rw [hz] at this q1
      obtain ⟨t, ht⟩ := this
      exact ⟨d, z, .int i, rfl, rfl, ⟨es, n, _, h2.at_, h2.lit, ht, ⟨t, rfl⟩⟩, q1.val x1.gh rfl⟩
  | _ => exact (show False from q1).elim
end
end DL

/-! readings: texts in order, and more -/
namespace DL
open PySem PySem.Spec PyProof.Rows L2
section
end
end DL
namespace DL
/-- a loop that may give back before its end -/
theorem Ok.forX {α S R : Type} {f : α → S → Res (Oc S R)} {l : List α} {s : S} (I : List α → S → Prop) (Q : R → Prop) (h0 : I [] s) (h : ∀ d a r s, l = d ++ a :: r → I d s → Ok (f a s) fun o => match o with | .nx s' => I (d ++ [a]) s' | .rt v => Q v | .bk _ => False) :
    Ok (forX l s f) fun o => match o with | .nx s' => I l s' | .rt v => Q v | .bk _ => False := by
  have gen : ∀ (r d : List α) (s : S), l = d ++ r → I d s → Ok (DL.forX r s f) fun o => match o with | .nx s' => I l s' | .rt v => Q v | .bk _ => False := by
    intro r
    induction r with
    | nil => intro d s e hI; rw [e, List.append_nil]; exact ⟨_, rfl, hI⟩
    | cons a r ih =>
      intro d s e hI
      unfold DL.forX
      obtain ⟨o, eo, ho⟩ := h d a r s e hI
      rw [eo, Res.bind_ok]
      cases o with
      | nx s' => exact ih (d ++ [a]) s' (by rw [e, List.append_assoc]; rfl) ho
      | rt v => exact ⟨_, rfl, ho⟩
      | bk s' => exact ho.elim
  exact gen l [] s rfl h0
end DL

/-! readings: insert, try, what is a list or a tuple -/
namespace DL
open PySem PySem.Spec PyProof.Rows L2
section
variable {α β T S R : Type} {ρ ρ' ρx : KEnv} {a b c : DL.Env → Out}
/-! ### try -/
/-! ### a list or a tuple -/
/-! ### less known of what was handed on -/
def Lw : KEnv → KEnv → Prop := A2 fun r x => ∀ P, r = some P → ∃ P', x = some P' ∧ ∀ d o, P' d o → P d o
theorem Lw.nil : Lw [] [] := rfl
theorem Lw.same {r : Option Kn} {a b : KEnv} (s : Lw a b) : Lw (r :: a) (r :: b) := ⟨_, _, rfl, fun P h => ⟨P, h, fun _ _ h => h⟩, s⟩
end
section
variable {α β : Type}
/-! ### equality where texts stand in tuples -/
structure EqG {α : Type} [DecidableEq α] (E : RE α) (ok : α → Bool) (n : Nat) : Prop where
  pl : ∀ a d, ok a = true → E a d → d.pl n = true
  beq : ∀ a b x y, E a x → E b y → PyData.eqv x.py y.py = decide (a = b)
structure EqGQ {α : Type} [DecidableEq α] (Q : α → List D → Prop) (ok : α → Bool) (n : Nat) : Prop where
  pl : ∀ a d, ok a = true → Q a d → D.pls d n = true
  beq : ∀ a b x y, Q a x → Q b y → PyData.eqvAll (D.pys x) (D.pys y) = decide (a = b)
theorem EqG.of [DecidableEq α] {E : RE α} {n : Nat} (h : EqE E n) : EqG E (fun _ => true) n := ⟨fun a d _ r => h.pl a d r, h.beq⟩
theorem EqG.str (n : Nat) : EqG eS PyData.strOk n := ⟨by rintro a _ h rfl; exact h, by
  rintro a b _ _ rfl rfl
  simp [D.py, PyData.eqv]
  exact Bool.eq_iff_iff.mpr (by simp)⟩
theorem EqGQ.one [DecidableEq α] {E : RE α} {n : Nat} {ok : α → Bool} (h : EqG E ok n) : EqGQ (q1 E) ok n := ⟨by
  rintro a _ k ⟨d, rfl, hd⟩
  simp [D.pls, h.pl a d k hd], by
  rintro a b _ _ ⟨d, rfl, hd⟩ ⟨d', rfl, hd'⟩
  simp only [D.pys, PyData.eqvAll, h.beq a b d d' hd hd', Bool.and_true]⟩
theorem EqGQ.c [DecidableEq α] [DecidableEq β] {E : RE α} {Q : β → List D → Prop} {n : Nat} {ok : α → Bool} {ok' : β → Bool} (h : EqG E ok n) (k : EqGQ Q ok' n) : EqGQ (qC E Q) (fun p => ok p.1 && ok' p.2) n := ⟨by
  rintro ⟨a, b⟩ _ o ⟨d, r, rfl, hd, hr⟩
  simp only [Bool.and_eq_true] at o
  simp [D.pls, h.pl a d o.1 hd, k.pl b r o.2 hr], by
  rintro ⟨a, b⟩ ⟨a', b'⟩ _ _ ⟨d, r, rfl, hd, hr⟩ ⟨d', r', rfl, hd', hr'⟩
  simp only [D.pys, PyData.eqvAll, h.beq _ _ d d' hd hd', k.beq _ _ r r' hr hr']
  by_cases h1 : a = a' <;> by_cases h2 : b = b' <;> simp [h1, h2]⟩
/-! ### dicts with row keys compared -/
end
end DL

/-! readings: defs that are lent lists and dicts -/
namespace DL
open PySem PySem.Spec PyProof.Rows L2
section
variable {α β R S T C C' : Type} {ρ ρ' : KEnv} {c : DL.Env → Out}
/-- the names at its start -/
def LeAM (bs : List Nat) (k : Nat) (ds : List D) (ρ : KEnv) : Prop := Le ρ (envMa bs k ds)
theorem LeAM.nil {bs : List Nat} {k : Nat} : LeAM bs k [] [] := rfl
theorem LeAM.sh {bs : List Nat} {k : Nat} {E : RE α} {x : α} {d : D} {ds : List D} (h : E x d) (hb : bs.elem k = false) (t : LeAM bs (k + 1) ds ρ) : LeAM bs k (d :: ds) (some (sh E x) :: ρ) := ⟨some (d, bs.elem k), _, rfl, fun P hP => ⟨d, _, rfl, by cases hP; exact ⟨h, hb⟩⟩, t⟩
theorem LeAM.ow {bs : List Nat} {k : Nat} {E : RE α} {x : α} {d : D} {ds : List D} (h : E x d) (hb : bs.elem k = true) (t : LeAM bs (k + 1) ds ρ) : LeAM bs k (d :: ds) (some (DL.ow E x) :: ρ) := ⟨some (d, bs.elem k), _, rfl, fun P hP => ⟨d, _, rfl, by cases hP; exact ⟨h, hb⟩⟩, t⟩
/-! ### calls -/
inductive KM where
  | v
  | o (i : Nat)
  | n
variable {al : List Nat}
end
end DL
namespace DL
open PySem PySem.Spec PyProof.Rows L2
theorem Fun.tup0 : Fun (eQ qN) (fun _ : Unit => D.tup []) := fun a d => ⟨fun ⟨ds, h, q⟩ => by rw [h, show ds = [] from q]; rfl, fun h => ⟨[], h, rfl⟩⟩
end DL

/-! readings: loops of a def that is lent lists and dicts, with returns in them -/
namespace DL
open PySem PySem.Spec PyProof.Rows L2
section
variable {α β R S T C : Type} {ρ ρ' : KEnv} {a b c : DL.Env → Out} {P : T → Out → Prop}
end
end DL
namespace DL
open PySem PySem.Spec PyProof.Rows L2
end DL
namespace DL
open PySem PySem.Spec PyProof.Rows L2
theorem b_testC {ρ : KEnv} {g : D → Res D} {f : DL.Env → Res D} {r : Res Bool} (h : EvR ρ (e1 g f) r eB) : EvR ρ (bTestC g f) r Tr := fun e l => by
  have := h e l
  unfold bTestC
  cases r with
  | ok b => obtain ⟨d, h1, h2⟩ := this; rw [h1, show d = _ from h2]; exact ⟨b, rfl, rfl⟩
  | exc c fs => rw [show e1 g f e = _ from this]; rfl
  | bad => trivial
end DL

/-! readings: what a lent def tells is given on, taken apart, or stands in a pair -/
namespace DL
open PySem PySem.Spec PyProof.Rows L2
section
variable {α β γ R S T C C' : Type} {ρ ρ' : KEnv} {c : DL.Env → Out} {al : List Nat}
end
end DL
namespace DL
open PySem PySem.Spec PyProof.Rows L2
/-! ### places in texts -/
end DL
namespace DL
end DL
namespace DL
section
variable {α : Type} {ρ : KEnv} {E : RE α} {f : α → D} {g : DL.Env → Res D}
theorem v_mapF {r : Res α} (p : Fun E f) (h : EvR ρ g r E) : EvR ρ g (r.bind fun z => .ok (f z)) eD := v_map h fun _ _ h => (p _ _).mp h
theorem v_castF {a : α} (p : Fun E f) (h : EvR ρ g (.ok a) E) : EvR ρ g (.ok (f a)) eD := v_cast h fun _ h => (p _ _).mp h
end
end DL
namespace DL
end DL

/-! readings: x.update(e); statements never reached -/
namespace DL
open PySem PySem.Spec PyProof.Rows L2
section
variable {α β T : Type} {ρ : KEnv} {c : DL.Env → Out}
variable [DecidableEq α] {f : α → D} {E : RE β}
end
section
variable {ρ : KEnv} {f : DL.Env → Res D}
end
section
variable {α : Type} {E : RE α} {x : α} {a b : KEnv}
end
section
variable {ρ : KEnv} {f : DL.Env → Res D}
def D.asAny : D → Res (List D)
  | .lst xs => .ok xs
  | .tup xs => .ok xs
  | .con xs => .ok xs
  | .str x => .ok (signs x)
  | _ => .bad
theorem v_seqA {r : Res D} (h : EvR ρ f r eD) : EvR ρ (iAny f) (r.bind D.asAny) (A2 eD) := fun e l => by
  show Rf ((f e).bind _) _ _
  exact (h e l).bind fun a d hd => by
    rw [show d = a from hd]
    cases a <;> first | trivial | exact ⟨_, rfl, A2.fn.mpr (by simp)⟩
end
end DL

namespace DL
open PySem PySem.Spec PyProof.Rows L2
theorem dv {X : Cx} {W : WX} {A : Nat → Prop} (i : Nat) {x : Str} {pos : Pos} (hN : X.N[i]? = some x := by rfl) (hv : Vis X.env.scope x := by first | exact .inl rfl | exact .inr (.inl rfl) | exact .inr (.inr rfl)) (hd : (x == ("__debug__" : Str)) = false := by decide) (hcd : (x == ("__classdict__" : Str)) = false := by decide) : DE X W A (.Name x pos) (eVarS i) := de_vs hN hv hd hcd
theorem vI {ρ : KEnv} (n : Int) : EvR ρ (eC (.int n)) (.ok (D.int n)) eD := v_castF (f := D.int) Fun.int (v_c (E := eI) (a := n) rfl)
theorem vT {ρ : KEnv} (n : Str) : EvR ρ (eC (.str n)) (.ok (D.str n)) eD := v_castF (f := D.str) Fun.str (v_c (E := eS) (a := n) rfl)
theorem vN {ρ : KEnv} (n : Int) : EvR ρ (eC (.int n)) (.ok n) eI := v_c (E := eI) (a := n) rfl
theorem szl {n : Nat} (h : n ≤ 1000000) : n ≤ sizeLine := by rw [PySem.sizeLine_eq]; omega
end DL

namespace DLaw
open DL PySem PySem.Spec PyProof.Rows L2
open PySem.Builtin.Int (intBits)
def top (i : Nat) : Stmt := PySem.Challenge.pw_blurdesk_k40_views_and_measures.main.body.getD i (.Pass ⟨0, 0, 0, 0⟩)
def k_PARTS : List (Str × Int) := [("not", 1), ("add", 2), ("sub", 2), ("mul", 2), ("quo", 2), ("less", 2), ("same", 2), ("both", 2), ("any", 2), ("pick", 3)]
/-! what the top says of the built-ins and errors -/
structure Txt (K : PySem.W.Frag) (mg : Str → Option Value) (w : World) : Prop where
  z_len : mg "len" = none
  z_max : mg "max" = none
  z_tuple : mg "tuple" = none
  z_range : mg "range" = none
  z_isinstance : mg "isinstance" = none
  z_str : mg "str" = none
  z_int : mg "int" = none
  z_bool : mg "bool" = none
  z_all : mg "all" = none
  d_PARTS : DctOk K w mg "PARTS" k_PARTS
  c_GREATEST : ConOk K mg "GREATEST" (.int 1000000000000000000)
  c_LETTERS : ConOk K mg "LETTERS" (.str "abcdefghijklmnopqrstuvwxyz")
/-! _law_leaf_by -/
abbrev s_l_leaf_by : Stmt := top 18
noncomputable def b_l_leaf_by : DL.Env → Out := (sSeq (sSet [] 1 (eOp dMod (eVarS 0) (eC (.int 4)))) (sSeq (sIf [] (bTest dEq (eVarS 1) (eC (.int 0))) (sSeq (sRet [] (eTup (aCons (eC (.str "field")) (aCons (eOp dMod (eOp dDiv (eVarS 0) (eC (.int 4))) (eC (.int 4))) aNil)))) sSkip) sSkip) (sSeq (sIf [] (bTest dEq (eVarS 1) (eC (.int 1))) (sSeq (sSet [] 2 (eOp dIxA (eLst (aCons (eC (.str "a")) (aCons (eC (.str "of")) (aCons (eC (.str "add")) (aCons (eC (.str "zzzzzzzz")) (aCons (eC (.str "all")) (aCons (eC (.str "pick")) (aCons (eC (.str "q")) (aCons (eC (.str "end")) aNil))))))))) (eOp dMod (eOp dDiv (eVarS 0) (eC (.int 4))) (eC (.int 8))))) (sSeq (sRet [] (eTup (aCons (eC (.str "name")) (aCons (eVarS 2) aNil)))) sSkip)) sSkip) (sSeq (sIf [] (bTest dEq (eVarS 1) (eC (.int 2))) (sSeq (sRet [] (eTup (aCons (eC (.str "num")) (aCons (eOp dSub (eOp dMod (eOp dDiv (eVarS 0) (eC (.int 4))) (eOp dAdd (eOp dMul (eC (.int 2)) (eOp dPow (eC (.int 10)) (eC (.int 18)))) (eC (.int 1)))) (eOp dPow (eC (.int 10)) (eC (.int 18)))) aNil)))) sSkip) sSkip) (sSeq (sRet [] (eTup (aCons (eC (.str "num")) (aCons (eOp dIxA (eLst (aCons (eOp dPow (eC (.int 10)) (eC (.int 18))) (aCons (eNeg (eOp dPow (eC (.int 10)) (eC (.int 18)))) (aCons (eC (.int 0)) (aCons (eNeg (eC (.int 1))) (aCons (eC (.int 7)) aNil)))))) (eOp dMod (eOp dDiv (eVarS 0) (eC (.int 4))) (eC (.int 5)))) aNil)))) sSkip)))))
noncomputable def F_l_leaf_by : List D → Res D := runDef 1 3 b_l_leaf_by
/-! _law_grown -/
abbrev s_l_grown : Stmt := top 19
noncomputable def b_l_grown_1 : DL.Env → Out := (sSeq (sSet [] 4 (eOp dMod (eVarS 3) (eC (.int 13)))) (sSeq (sSet [] 5 (eOp dIxA (eLst (aCons (eC (.int 0)) (aCons (eC (.int 0)) (aCons (eC (.int 0)) (aCons (eC (.int 1)) (aCons (eC (.int 2)) (aCons (eC (.int 2)) (aCons (eC (.int 2)) (aCons (eC (.int 2)) (aCons (eC (.int 2)) (aCons (eC (.int 2)) (aCons (eC (.int 2)) (aCons (eC (.int 2)) (aCons (eC (.int 3)) aNil)))))))))))))) (eVarS 4))) (sSeq (sIf [] (bOr (bTest dEq (eVarS 5) (eC (.int 0))) (bOr (bTest dLt (e1 dLen (eVar 1)) (eVarS 5)) (bTest dEq (e1 dMaxL (eCut (eVar 2) (oSome (eNeg (eVarS 5))) oNone)) (eC (.int 12))))) (sSeq (sMut [] 1 gAppend (aCons (eCall F_l_leaf_by (aCons (eOp dDiv (eVarS 3) (eC (.int 13))) aNil)) aNil)) (sSeq (sMut [] 2 gAppend (aCons (eC (.int 1)) aNil)) sSkip)) (sSeq (sSet [] 6 (eOp dIxA (eLst (aCons (eC (.str "not")) (aCons (eC (.str "add")) (aCons (eC (.str "sub")) (aCons (eC (.str "mul")) (aCons (eC (.str "quo")) (aCons (eC (.str "less")) (aCons (eC (.str "same")) (aCons (eC (.str "both")) (aCons (eC (.str "any")) (aCons (eC (.str "pick")) aNil))))))))))) (eOp dSub (eVarS 4) (eC (.int 3))))) (sSeq (sSet [] 7 (eOp dAdd (eTup (aCons (eVarS 6) aNil)) (e1 dTuple (eCut (eVar 1) (oSome (eNeg (eVarS 5))) oNone)))) (sSeq (sSet [] 8 (eOp dAdd (eC (.int 1)) (e1 dMaxL (eCut (eVar 2) (oSome (eNeg (eVarS 5))) oNone)))) (sSeq (sSetF [] 1 (eOp dCat (eCut (eVar 1) oNone (oSome (eNeg (eVarS 5)))) (eLst (aCons (eVarS 7) aNil)))) (sSeq (sSetF [] 2 (eOp dCat (eCut (eVar 2) oNone (oSome (eNeg (eVarS 5)))) (eLst (aCons (eVarS 8) aNil)))) sSkip)))))) sSkip)))
noncomputable def b_l_grown : DL.Env → Out := (sSeq (sSetF [] 1 (eLst aNil)) (sSeq (sSetF [] 2 (eLst aNil)) (sSeq (sFor [] (.nm 3) (iSeq (eVarS 0)) b_l_grown_1) (sSeq (sRet [1] (eVar 1)) sSkip))))
noncomputable def F_l_grown : List D → Res D := runDef 1 9 b_l_grown
/-! _law_lists_by -/
abbrev s_l_lists_by : Stmt := top 20
noncomputable def b_l_lists_by_1 : DL.Env → Out := (sSeq (sSet [] 3 (eOp dAdd (eVarS 3) (eTup (aCons (eCut (eOp dAdd (eTup (aCons (eTup (aCons (eC (.str "num")) (aCons (eVarS 4) aNil))) aNil)) (eOp dRepT (eTup (aCons (eVarS 1) aNil)) (eVarS 2))) oNone (oSome (eVarS 2))) aNil)))) sSkip)
noncomputable def b_l_lists_by : DL.Env → Out := (sSeq (sSet [] 2 (eOp dAdd (eC (.int 1)) (eOp dMod (eOp dDiv (eVarS 0) (eC (.int 4))) (eC (.int 4))))) (sSeq (sSet [] 3 (eTup aNil)) (sSeq (sFor [] (.nm 4) (iRange1 (eOp dAdd (eC (.int 1)) (eOp dMod (eVarS 0) (eC (.int 4))))) b_l_lists_by_1) (sSeq (sRet [] (eVarS 3)) sSkip))))
noncomputable def F_l_lists_by : List D → Res D := runDef 2 5 b_l_lists_by
/-! _law_pairs_by -/
abbrev s_l_pairs_by : Stmt := top 21
noncomputable def b_l_pairs_by_1 : DL.Env → Out := (sSeq (sSet [] 4 (eOp dMul (eOp dMod (eOp dDiv (eVarS 0) (eC (.int 36))) (eOp dAdd (eOp dPow (eC (.int 10)) (eC (.int 18))) (eC (.int 1)))) (eOp dSub (eC (.int 1)) (eOp dMul (eC (.int 2)) (eOp dMod (eVarS 3) (eC (.int 2))))))) (sSeq (sSet [] 2 (eOp dAdd (eVarS 2) (eTup (aCons (eTup (aCons (eOp dDiv (eVarS 4) (eOp dAdd (eVarS 3) (eC (.int 1)))) (aCons (eCut (eTup (aCons (eVarS 4) (aCons (eOp dPow (eC (.int 10)) (eC (.int 18))) (aCons (eNeg (eOp dPow (eC (.int 10)) (eC (.int 18)))) (aCons (eVarS 3) aNil))))) oNone (oSome (eVarS 1))) aNil))) aNil)))) sSkip))
noncomputable def b_l_pairs_by : DL.Env → Out := (sSeq (sSet [] 1 (eOp dAdd (eC (.int 1)) (eOp dMod (eOp dDiv (eVarS 0) (eC (.int 9))) (eC (.int 4))))) (sSeq (sSet [] 2 (eTup aNil)) (sSeq (sFor [] (.nm 3) (iRange1 (eOp dMod (eVarS 0) (eC (.int 9)))) b_l_pairs_by_1) (sSeq (sRet [] (eVarS 2)) sSkip))))
noncomputable def F_l_pairs_by : List D → Res D := runDef 1 5 b_l_pairs_by
/-! _law_view_grown -/
abbrev s_l_view_grown : Stmt := top 22
noncomputable def b_l_view_grown_1 : DL.Env → Out := (sSeq (sSet [] 5 (eOp dDiv (eOp dIxA (eVarS 0) (eVarS 4)) (eC (.int 7)))) (sSeq (sSet [] 6 (eOp dIxA (eVarS 1) (eOp dMod (eVarS 4) (e1 dLen (eVarS 1))))) (sSeq (sSet [] 7 (eOp dIx (eVar 2) (eNeg (eC (.int 1))))) (sSeq (sSet [] 8 (eOp dMod (eOp dIxA (eVarS 0) (eVarS 4)) (eC (.int 7)))) (sSeq (sIf [] (bTest dEq (eVarS 3) (eC (.int 6))) (sSeq (sMut [] 2 gAppend (aCons (eTup (aCons (eC (.str "all")) aNil)) aNil)) (sSeq (sSet [] 3 (eC (.int 1))) sSkip)) (sSeq (sIf [] (bTest dLt (eVarS 8) (eC (.int 2))) (sSeq (sPutL [] 2 (eNeg (eC (.int 1))) (eTup (aCons (eC (.str "keep")) (aCons (eVarS 6) (aCons (eVarS 7) aNil))))) sSkip) (sSeq (sIf [] (bTest dEq (eVarS 8) (eC (.int 2))) (sSeq (sPutL [] 2 (eNeg (eC (.int 1))) (eTup (aCons (eC (.str "rows")) (aCons (eCall F_l_lists_by (aCons (eVarS 5) (aCons (eVarS 6) aNil))) (aCons (eVarS 7) aNil))))) sSkip) (sSeq (sIf [] (bTest dEq (eVarS 8) (eC (.int 3))) (sSeq (sPutL [] 2 (eNeg (eC (.int 1))) (eTup (aCons (eC (.str "unlike")) (aCons (eVarS 7) aNil)))) sSkip) (sSeq (sIf [] (bTest dEq (eVarS 8) (eC (.int 4))) (sSeq (sPutL [] 2 (eNeg (eC (.int 1))) (eTup (aCons (eC (.str "cap")) (aCons (eVarS 6) (aCons (eOp dAdd (eC (.int 1)) (eOp dMod (eVarS 5) (eC (.int 40)))) (aCons (eVarS 7) aNil)))))) sSkip) (sSeq (sIf [] (bTest dEq (eVarS 8) (eC (.int 5))) (sSeq (sPutL [] 2 (eNeg (eC (.int 1))) (eTup (aCons (eC (.str "both")) (aCons (eTup (aCons (eC (.str "unlike")) (aCons (eTup (aCons (eC (.str "all")) aNil)) aNil))) (aCons (eVarS 7) aNil))))) (sSeq (sSet [] 3 (eOp dMax (eVarS 3) (eC (.int 2)))) sSkip)) (sSeq (sPutL [] 2 (eNeg (eC (.int 1))) (eTup (aCons (eC (.str "match")) (aCons (eCall F_l_pairs_by (aCons (eVarS 5) aNil)) (aCons (eVarS 6) (aCons (eVarS 7) aNil)))))) sSkip)) sSkip)) sSkip)) sSkip)) sSkip)) sSkip)) (sSeq (sIf [] (bTest dNe (eOp dIx (eVar 2) (eNeg (eC (.int 1)))) (eTup (aCons (eC (.str "all")) aNil))) (sSeq (sSet [] 3 (eOp dAdd (eVarS 3) (eC (.int 1)))) sSkip) sSkip) sSkip))))))
noncomputable def b_l_view_grown : DL.Env → Out := (sSeq (sSetF [] 2 (eLst (aCons (eTup (aCons (eC (.str "all")) aNil)) aNil))) (sSeq (sSet [] 3 (eC (.int 1))) (sSeq (sFor [] (.nm 4) (iRange1 (e1 dLen (eVarS 0))) b_l_view_grown_1) (sSeq (sRet [2] (eVar 2)) sSkip))))
noncomputable def F_l_view_grown : List D → Res D := runDef 2 9 b_l_view_grown
/-! headed -/
abbrev s_headed : Stmt := top 8
noncomputable def b_headed : DL.Env → Out := (sSeq (sRet [] (eAnd (e1 isTup (eVarS 0)) (eAnd (eOp dGt (e1 dLen (eVarS 0)) (eC (.int 0))) (e1 isStr (eOp dIx (eVarS 0) (eC (.int 0))))))) sSkip)
noncomputable def F_headed : List D → Res D := runDef 1 1 b_headed
/-! is_whole -/
abbrev s_is_whole : Stmt := top 4
noncomputable def b_is_whole : DL.Env → Out := (sSeq (sRet [] (eAnd (e1 isInt (eVarS 0)) (eNot (e1 isBool (eVarS 0))))) sSkip)
noncomputable def F_is_whole : List D → Res D := runDef 1 1 b_is_whole
/-! lies_between -/
abbrev s_lies_between : Stmt := top 5
noncomputable def b_lies_between : DL.Env → Out := (sSeq (sRet [] (eAnd (eCall F_is_whole (aCons (eVarS 0) aNil)) (eChain dLe dLe (eVarS 1) (eVarS 0) (eVarS 2)))) sSkip)
noncomputable def F_lies_between : List D → Res D := runDef 3 3 b_lies_between
/-! is_number -/
abbrev s_is_number : Stmt := top 6
noncomputable def b_is_number : DL.Env → Out := (sSeq (sRet [] (eCall F_lies_between (aCons (eVarS 0) (aCons (eNeg (eC (.int 1000000000000000000))) (aCons (eC (.int 1000000000000000000)) aNil))))) sSkip)
noncomputable def F_is_number : List D → Res D := runDef 1 1 b_is_number
/-! is_name -/
abbrev s_is_name : Stmt := top 7
noncomputable def b_is_name_1 : DL.Env → Out := (sSeq (sIf [] (bTest (dInA true) (eVarS 1) (eC (.str "abcdefghijklmnopqrstuvwxyz"))) (sSeq (sRet [] (eC (.bl false))) sSkip) sSkip) sSkip)
noncomputable def b_is_name : DL.Env → Out := (sSeq (sIf [] (bOr (bNot (bTruth (e1 isStr (eVarS 0)))) (bOr (bTest dLt (e1 dLen (eVarS 0)) (eC (.int 1))) (bTest dGt (e1 dLen (eVarS 0)) (eC (.int 8))))) (sSeq (sRet [] (eC (.bl false))) sSkip) sSkip) (sSeq (sFor [] (.nm 1) (iAny (eVarS 0)) b_is_name_1) (sSeq (sRet [] (eC (.bl true))) sSkip)))
noncomputable def F_is_name : List D → Res D := runDef 1 2 b_is_name
/-! term_fits -/
abbrev s_term_fits : Stmt := top 9
noncomputable def b_term_fits (G : List D → Res D) : DL.Env → Out := (sSeq (sIf [] (bOr (bTest dEq (eVarS 1) (eC (.int 0))) (bOr (bNot (bTruth (eCall F_headed (aCons (eVarS 0) aNil)))) (bTest dLt (e1 dLen (eVarS 0)) (eC (.int 2))))) (sSeq (sRet [] (eC (.bl false))) sSkip) sSkip) (sSeq (sSet [] 2 (eOp dIx (eVarS 0) (eC (.int 0)))) (sSeq (sIf [] (bTest dEq (eVarS 2) (eC (.str "num"))) (sSeq (sRet [] (eAnd (eOp dEq (e1 dLen (eVarS 0)) (eC (.int 2))) (eCall F_is_number (aCons (eOp dIx (eVarS 0) (eC (.int 1))) aNil)))) sSkip) sSkip) (sSeq (sIf [] (bTest dEq (eVarS 2) (eC (.str "field"))) (sSeq (sRet [] (eAnd (eOp dEq (e1 dLen (eVarS 0)) (eC (.int 2))) (eCall F_lies_between (aCons (eOp dIx (eVarS 0) (eC (.int 1))) (aCons (eC (.int 0)) (aCons (eC (.int 3)) aNil)))))) sSkip) sSkip) (sSeq (sIf [] (bTest dEq (eVarS 2) (eC (.str "name"))) (sSeq (sRet [] (eAnd (eOp dEq (e1 dLen (eVarS 0)) (eC (.int 2))) (eCall F_is_name (aCons (eOp dIx (eVarS 0) (eC (.int 1))) aNil)))) sSkip) sSkip) (sSeq (sIf [] (bOr (bTestC (dNotInC k_PARTS) (eVarS 2)) (bTest dNe (e1 dLen (eVarS 0)) (eOp dAdd (eC (.int 1)) (e1 (dAtC k_PARTS) (eVarS 2))))) (sSeq (sRet [] (eC (.bl false))) sSkip) sSkip) (sSeq (sRet [] (e1 dAll (eComp [3] (.nm 3) (iSeq (eCut (eVarS 0) (oSome (eC (.int 1))) oNone)) bYes (eCall G (aCons (eVarS 3) (aCons (eOp dSub (eVarS 1) (eC (.int 1))) aNil)))))) sSkip)))))))
noncomputable def R_term_fits : Nat → List D → Res D
  | 0 => fun _ => .bad
  | j + 1 => runDef 2 4 (b_term_fits (R_term_fits j))
noncomputable def F_term_fits : List D → Res D := R_term_fits 14
/-! is_term -/
abbrev s_is_term : Stmt := top 10
noncomputable def b_is_term : DL.Env → Out := (sSeq (sRet [] (eCall F_term_fits (aCons (eVarS 0) (aCons (eC (.int 12)) aNil)))) sSkip)
noncomputable def F_is_term : List D → Res D := runDef 1 1 b_is_term
/-! are_lists -/
abbrev s_are_lists : Stmt := top 12
noncomputable def b_are_lists_1 : DL.Env → Out := (sSeq (sIf [] (bOr (bNot (bTruth (e1 isTup (eVarS 1)))) (bOr (bTest dLt (e1 dLen (eVarS 1)) (eC (.int 1))) (bOr (bTest dGt (e1 dLen (eVarS 1)) (eC (.int 4))) (bTest dNe (e1 dLen (eVarS 1)) (e1 dLen (eOp dIx (eVarS 0) (eC (.int 0)))))))) (sSeq (sRet [] (eC (.bl false))) sSkip) sSkip) (sSeq (sIf [] (bNot (bTruth (e1 dAll (eComp [2] (.nm 2) (iSeq (eVarS 1)) bYes (eCall F_is_term (aCons (eVarS 2) aNil)))))) (sSeq (sRet [] (eC (.bl false))) sSkip) sSkip) sSkip))
noncomputable def b_are_lists : DL.Env → Out := (sSeq (sIf [] (bOr (bNot (bTruth (e1 isTup (eVarS 0)))) (bOr (bTest dLt (e1 dLen (eVarS 0)) (eC (.int 1))) (bTest dGt (e1 dLen (eVarS 0)) (eC (.int 4))))) (sSeq (sRet [] (eC (.bl false))) sSkip) sSkip) (sSeq (sFor [] (.nm 1) (iSeq (eVarS 0)) b_are_lists_1) (sSeq (sRet [] (eC (.bl true))) sSkip)))
noncomputable def F_are_lists : List D → Res D := runDef 1 3 b_are_lists
/-! is_pair -/
abbrev s_is_pair : Stmt := top 13
noncomputable def b_is_pair : DL.Env → Out := (sSeq (sIf [] (bOr (bNot (bTruth (e1 isTup (eVarS 0)))) (bOr (bTest dNe (e1 dLen (eVarS 0)) (eC (.int 2))) (bNot (bTruth (eCall F_is_number (aCons (eOp dIx (eVarS 0) (eC (.int 0))) aNil)))))) (sSeq (sRet [] (eC (.bl false))) sSkip) sSkip) (sSeq (sSet [] 1 (eOp dIx (eVarS 0) (eC (.int 1)))) (sSeq (sRet [] (eAnd (e1 isTup (eVarS 1)) (eAnd (eChain dLe dLe (eC (.int 1)) (e1 dLen (eVarS 1)) (eC (.int 4))) (e1 dAll (eComp [2] (.nm 2) (iSeq (eVarS 1)) bYes (eCall F_is_number (aCons (eVarS 2) aNil))))))) sSkip)))
noncomputable def F_is_pair : List D → Res D := runDef 1 3 b_is_pair
/-! are_pairs -/
abbrev s_are_pairs : Stmt := top 14
noncomputable def b_are_pairs_1 : DL.Env → Out := (sSeq (sIf [] (bOr (bNot (bTruth (eCall F_is_pair (aCons (eVarS 1) aNil)))) (bTest dNe (e1 dLen (eOp dIx (eVarS 1) (eC (.int 1)))) (e1 dLen (eOp dIx (eOp dIx (eVarS 0) (eC (.int 0))) (eC (.int 1)))))) (sSeq (sRet [] (eC (.bl false))) sSkip) sSkip) sSkip)
noncomputable def b_are_pairs : DL.Env → Out := (sSeq (sIf [] (bOr (bNot (bTruth (e1 isTup (eVarS 0)))) (bTest dGt (e1 dLen (eVarS 0)) (eC (.int 8)))) (sSeq (sRet [] (eC (.bl false))) sSkip) sSkip) (sSeq (sFor [] (.nm 1) (iSeq (eVarS 0)) b_are_pairs_1) (sSeq (sRet [] (eC (.bl true))) sSkip)))
noncomputable def F_are_pairs : List D → Res D := runDef 1 2 b_are_pairs
/-! view_fits -/
abbrev s_view_fits : Stmt := top 15
noncomputable def b_view_fits (G : List D → Res D) : DL.Env → Out := (sSeq (sIf [] (bOr (bTest dEq (eVarS 1) (eC (.int 0))) (bNot (bTruth (eCall F_headed (aCons (eVarS 0) aNil))))) (sSeq (sRet [] (eC (.bl false))) sSkip) sSkip) (sSeq (sSet [] 2 (eOp dIx (eVarS 0) (eC (.int 0)))) (sSeq (sIf [] (bTest dEq (eVarS 2) (eC (.str "all"))) (sSeq (sRet [] (eOp dEq (e1 dLen (eVarS 0)) (eC (.int 1)))) sSkip) sSkip) (sSeq (sIf [] (bTest dEq (eVarS 2) (eC (.str "keep"))) (sSeq (sRet [] (eAnd (eOp dEq (e1 dLen (eVarS 0)) (eC (.int 3))) (eAnd (eCall F_is_term (aCons (eOp dIx (eVarS 0) (eC (.int 1))) aNil)) (eCall G (aCons (eOp dIx (eVarS 0) (eC (.int 2))) (aCons (eOp dSub (eVarS 1) (eC (.int 1))) aNil)))))) sSkip) sSkip) (sSeq (sIf [] (bTest dEq (eVarS 2) (eC (.str "rows"))) (sSeq (sRet [] (eAnd (eOp dEq (e1 dLen (eVarS 0)) (eC (.int 3))) (eAnd (eCall F_are_lists (aCons (eOp dIx (eVarS 0) (eC (.int 1))) aNil)) (eCall G (aCons (eOp dIx (eVarS 0) (eC (.int 2))) (aCons (eOp dSub (eVarS 1) (eC (.int 1))) aNil)))))) sSkip) sSkip) (sSeq (sIf [] (bTest dEq (eVarS 2) (eC (.str "unlike"))) (sSeq (sRet [] (eAnd (eOp dEq (e1 dLen (eVarS 0)) (eC (.int 2))) (eCall G (aCons (eOp dIx (eVarS 0) (eC (.int 1))) (aCons (eOp dSub (eVarS 1) (eC (.int 1))) aNil))))) sSkip) sSkip) (sSeq (sIf [] (bTest dEq (eVarS 2) (eC (.str "cap"))) (sSeq (sSet [] 3 (eAnd (eOp dEq (e1 dLen (eVarS 0)) (eC (.int 4))) (eAnd (eCall F_is_term (aCons (eOp dIx (eVarS 0) (eC (.int 1))) aNil)) (eCall F_lies_between (aCons (eOp dIx (eVarS 0) (eC (.int 2))) (aCons (eC (.int 1)) (aCons (eC (.int 40)) aNil))))))) (sSeq (sRet [] (eAnd (eVarS 3) (eCall G (aCons (eOp dIx (eVarS 0) (eC (.int 3))) (aCons (eOp dSub (eVarS 1) (eC (.int 1))) aNil))))) sSkip)) sSkip) (sSeq (sIf [] (bTest dEq (eVarS 2) (eC (.str "both"))) (sSeq (sRet [] (eAnd (eOp dEq (e1 dLen (eVarS 0)) (eC (.int 3))) (eAnd (eCall G (aCons (eOp dIx (eVarS 0) (eC (.int 1))) (aCons (eOp dSub (eVarS 1) (eC (.int 1))) aNil))) (eCall G (aCons (eOp dIx (eVarS 0) (eC (.int 2))) (aCons (eOp dSub (eVarS 1) (eC (.int 1))) aNil)))))) sSkip) sSkip) (sSeq (sIf [] (bOr (bTest dNe (eVarS 2) (eC (.str "match"))) (bTest dNe (e1 dLen (eVarS 0)) (eC (.int 4)))) (sSeq (sRet [] (eC (.bl false))) sSkip) sSkip) (sSeq (sRet [] (eAnd (eCall F_are_pairs (aCons (eOp dIx (eVarS 0) (eC (.int 1))) aNil)) (eAnd (eCall F_is_term (aCons (eOp dIx (eVarS 0) (eC (.int 2))) aNil)) (eCall G (aCons (eOp dIx (eVarS 0) (eC (.int 3))) (aCons (eOp dSub (eVarS 1) (eC (.int 1))) aNil)))))) sSkip))))))))))
noncomputable def R_view_fits : Nat → List D → Res D
  | 0 => fun _ => .bad
  | j + 1 => runDef 2 4 (b_view_fits (R_view_fits j))
noncomputable def F_view_fits : List D → Res D := R_view_fits 12
/-! is_view -/
abbrev s_is_view : Stmt := top 16
noncomputable def b_is_view : DL.Env → Out := (sSeq (sRet [] (eCall F_view_fits (aCons (eVarS 0) (aCons (eC (.int 6)) aNil)))) sSkip)
noncomputable def F_is_view : List D → Res D := runDef 1 1 b_is_view
/-! _law_no_term -/
abbrev s_l_no_term : Stmt := top 24
noncomputable def b_l_no_term_1 : DL.Env → Out := (sSeq (sSet [] 2 (eTup (aCons (eC (.str "not")) (aCons (eVarS 2) aNil)))) sSkip)
noncomputable def b_l_no_term : DL.Env → Out := (sSeq (sSet [] 2 (eTup (aCons (eC (.str "num")) (aCons (eC (.int 1)) aNil)))) (sSeq (sFor [] (.nm 3) (iRange1 (eC (.int 12))) b_l_no_term_1) (sSeq (sSet [] 4 (eLst (aCons (eVarS 2) (aCons (eTup (aCons (eC (.str "num")) aNil)) (aCons (eTup (aCons (eC (.str "num")) (aCons (eOp dAdd (eOp dPow (eC (.int 10)) (eC (.int 18))) (eC (.int 1))) aNil))) (aCons (eTup (aCons (eC (.str "num")) (aCons (eC (.str "a")) aNil))) (aCons (eTup (aCons (eC (.str "field")) (aCons (eC (.int 4)) aNil))) (aCons (eTup (aCons (eC (.str "field")) (aCons (eNeg (eC (.int 1))) aNil))) (aCons (eTup (aCons (eC (.str "name")) (aCons (eC (.str "")) aNil))) aNil))))))))) (sSeq (sSet [] 4 (eOp dAdd (eVarS 4) (eLst (aCons (eTup (aCons (eC (.str "name")) (aCons (eC (.str "aB")) aNil))) (aCons (eTup (aCons (eC (.str "add")) (aCons (eVarS 1) aNil))) (aCons (eTup (aCons (eC (.str "pow")) (aCons (eVarS 1) (aCons (eVarS 1) aNil)))) (aCons (eC (.str "num")) (aCons (eC (.int 7)) (aCons (eTup aNil) (aCons (eTup (aCons (eC (.str "not")) aNil)) aNil)))))))))) (sSeq (sRet [] (eOp dIxA (eVarS 4) (eOp dMod (eVarS 0) (eC (.int 14))))) sSkip)))))
noncomputable def F_l_no_term : List D → Res D := runDef 2 5 b_l_no_term
/-! _law_bad_view -/
abbrev s_l_bad_view : Stmt := top 25
noncomputable def b_l_bad_view : DL.Env → Out := (sSeq (sSet [] 3 (eTup (aCons (eC (.int 1)) (aCons (eTup (aCons (eC (.int 2)) (aCons (eC (.int 3)) aNil))) aNil)))) (sSeq (sSet [] 4 (eCall F_l_no_term (aCons (eOp dDiv (eVarS 0) (eC (.int 35))) (aCons (eVarS 1) aNil)))) (sSeq (sSet [] 5 (eLst (aCons (eTup aNil) (aCons (eTup (aCons (eC (.str "all")) (aCons (eC (.int 1)) aNil))) (aCons (eC (.str "all")) (aCons (eC (.int 5)) (aCons (eTup (aCons (eC (.str "keep")) (aCons (eVarS 1) aNil))) (aCons (eTup (aCons (eC (.str "keep")) (aCons (eVarS 2) (aCons (eVarS 1) aNil)))) (aCons (eTup (aCons (eC (.str "keep")) (aCons (eTup (aCons (eC (.str "num")) aNil)) (aCons (eVarS 2) aNil)))) (aCons (eTup (aCons (eC (.str "All")) aNil)) aNil)))))))))) (sSeq (sSet [] 5 (eOp dAdd (eVarS 5) (eLst (aCons (eTup (aCons (eC (.str "rows")) (aCons (eTup aNil) (aCons (eVarS 2) aNil)))) (aCons (eTup (aCons (eC (.str "rows")) (aCons (eTup (aCons (eTup aNil) aNil)) (aCons (eVarS 2) aNil)))) (aCons (eTup (aCons (eC (.str "rows")) (aCons (eTup (aCons (eTup (aCons (eVarS 1) aNil)) (aCons (eTup (aCons (eVarS 1) (aCons (eVarS 1) aNil))) aNil))) (aCons (eVarS 2) aNil)))) aNil)))))) (sSeq (sSet [] 5 (eOp dAdd (eVarS 5) (eLst (aCons (eTup (aCons (eC (.str "rows")) (aCons (eOp dRepT (eTup (aCons (eTup (aCons (eVarS 1) aNil)) aNil)) (eC (.int 5))) (aCons (eVarS 2) aNil)))) (aCons (eTup (aCons (eC (.str "rows")) (aCons (eTup (aCons (eOp dRepT (eTup (aCons (eVarS 1) aNil)) (eC (.int 5))) aNil)) (aCons (eVarS 2) aNil)))) (aCons (eTup (aCons (eC (.str "rows")) (aCons (eTup (aCons (eVarS 1) aNil)) (aCons (eVarS 2) aNil)))) aNil)))))) (sSeq (sSet [] 5 (eOp dAdd (eVarS 5) (eLst (aCons (eTup (aCons (eC (.str "unlike")) aNil)) (aCons (eTup (aCons (eC (.str "unlike")) (aCons (eVarS 2) (aCons (eVarS 2) aNil)))) (aCons (eTup (aCons (eC (.str "cap")) (aCons (eVarS 1) (aCons (eC (.int 0)) (aCons (eVarS 2) aNil))))) (aCons (eTup (aCons (eC (.str "cap")) (aCons (eVarS 1) (aCons (eC (.int 41)) (aCons (eVarS 2) aNil))))) aNil))))))) (sSeq (sSet [] 5 (eOp dAdd (eVarS 5) (eLst (aCons (eTup (aCons (eC (.str "cap")) (aCons (eC (.int 2)) (aCons (eVarS 1) (aCons (eVarS 2) aNil))))) (aCons (eTup (aCons (eC (.str "both")) (aCons (eVarS 2) aNil))) (aCons (eTup (aCons (eC (.str "both")) (aCons (eVarS 2) (aCons (eVarS 1) aNil)))) (aCons (eTup (aCons (eC (.str "match")) (aCons (eOp dRepT (eTup (aCons (eVarS 3) aNil)) (eC (.int 9))) (aCons (eVarS 1) (aCons (eVarS 2) aNil))))) aNil))))))) (sSeq (sSet [] 5 (eOp dAdd (eVarS 5) (eLst (aCons (eTup (aCons (eC (.str "match")) (aCons (eTup (aCons (eVarS 3) (aCons (eTup (aCons (eC (.int 1)) (aCons (eTup (aCons (eC (.int 2)) aNil)) aNil))) aNil))) (aCons (eVarS 1) (aCons (eVarS 2) aNil))))) (aCons (eTup (aCons (eC (.str "match")) (aCons (eTup (aCons (eTup (aCons (eC (.int 1)) (aCons (eTup aNil) aNil))) aNil)) (aCons (eVarS 1) (aCons (eVarS 2) aNil))))) aNil))))) (sSeq (sSet [] 5 (eOp dAdd (eVarS 5) (eLst (aCons (eTup (aCons (eC (.str "match")) (aCons (eTup (aCons (eTup (aCons (eC (.int 1)) (aCons (eTup (aCons (eC (.int 1)) (aCons (eC (.int 2)) (aCons (eC (.int 3)) (aCons (eC (.int 4)) (aCons (eC (.int 5)) aNil)))))) aNil))) aNil)) (aCons (eVarS 1) (aCons (eVarS 2) aNil))))) (aCons (eTup (aCons (eC (.str "match")) (aCons (eTup (aCons (eTup (aCons (eOp dAdd (eOp dPow (eC (.int 10)) (eC (.int 18))) (eC (.int 1))) (aCons (eTup (aCons (eC (.int 1)) aNil)) aNil))) aNil)) (aCons (eVarS 1) (aCons (eVarS 2) aNil))))) aNil))))) (sSeq (sSet [] 5 (eOp dAdd (eVarS 5) (eLst (aCons (eTup (aCons (eC (.str "match")) (aCons (eTup (aCons (eTup (aCons (eC (.int 1)) (aCons (eTup (aCons (eOp dSub (eNeg (eOp dPow (eC (.int 10)) (eC (.int 18)))) (eC (.int 1))) aNil)) aNil))) aNil)) (aCons (eVarS 1) (aCons (eVarS 2) aNil))))) (aCons (eTup (aCons (eC (.str "match")) (aCons (eTup (aCons (eVarS 3) aNil)) (aCons (eVarS 2) aNil)))) (aCons (eTup (aCons (eC (.str "join")) (aCons (eVarS 2) (aCons (eVarS 2) aNil)))) aNil)))))) (sSeq (sSet [] 5 (eOp dAdd (eVarS 5) (eLst (aCons (eTup (aCons (eC (.str "match")) (aCons (eVarS 3) (aCons (eVarS 1) (aCons (eVarS 2) aNil))))) (aCons (eTup (aCons (eC (.str "cap")) (aCons (eVarS 4) (aCons (eC (.int 3)) (aCons (eVarS 2) aNil))))) (aCons (eTup (aCons (eC (.str "match")) (aCons (eTup (aCons (eVarS 3) aNil)) (aCons (eVarS 4) (aCons (eVarS 2) aNil))))) aNil)))))) (sSeq (sRet [] (eOp dIxA (eOp dAdd (eVarS 5) (eLst (aCons (eTup (aCons (eC (.str "rows")) (aCons (eTup (aCons (eTup (aCons (eVarS 4) aNil)) aNil)) (aCons (eVarS 2) aNil)))) (aCons (eTup (aCons (eC (.str "rows")) (aCons (eTup (aCons (eTup (aCons (eVarS 1) (aCons (eVarS 4) aNil))) aNil)) (aCons (eVarS 2) aNil)))) (aCons (eTup (aCons (eC (.str "keep")) (aCons (eVarS 4) (aCons (eVarS 2) aNil)))) aNil))))) (eOp dMod (eVarS 0) (eC (.int 35))))) sSkip))))))))))))
noncomputable def F_l_bad_view : List D → Res D := runDef 3 6 b_l_bad_view
/-! _law_view_spoiled -/
abbrev s_l_view_spoiled : Stmt := top 26
noncomputable def b_l_view_spoiled (G : List D → Res D) : DL.Env → Out := (sSeq (sIf [] (bOr (bTest dEq (eOp dMod (eVarS 1) (eC (.int 3))) (eC (.int 0))) (bTest dEq (eOp dIx (eVarS 0) (eC (.int 0))) (eC (.str "all")))) (sSeq (sRet [] (eCall F_l_bad_view (aCons (eVarS 2) (aCons (eVarS 3) (aCons (eVarS 0) aNil))))) sSkip) sSkip) (sSeq (sRet [] (eOp dAdd (eCut (eVarS 0) oNone (oSome (eNeg (eC (.int 1))))) (eTup (aCons (eCall G (aCons (eOp dIx (eVarS 0) (eNeg (eC (.int 1)))) (aCons (eOp dDiv (eVarS 1) (eC (.int 3))) (aCons (eVarS 2) (aCons (eVarS 3) aNil))))) aNil)))) sSkip))
noncomputable def R_l_view_spoiled : Nat → List D → Res D
  | 0 => fun _ => .bad
  | j + 1 => runDef 4 4 (b_l_view_spoiled (R_l_view_spoiled j))
noncomputable def F_l_view_spoiled : List D → Res D := R_l_view_spoiled 12
/-! _law_view_deep -/
abbrev s_l_view_deep : Stmt := top 23
noncomputable def b_l_view_deep (G : List D → Res D) : DL.Env → Out := (sSeq (sIf [] (bTest dEq (eOp dIx (eVarS 0) (eC (.int 0))) (eC (.str "all"))) (sSeq (sRet [] (eC (.int 1))) sSkip) sSkip) (sSeq (sIf [] (bTest dEq (eOp dIx (eVarS 0) (eC (.int 0))) (eC (.str "both"))) (sSeq (sRet [] (eOp dAdd (eC (.int 1)) (eOp dMax (eCall G (aCons (eOp dIx (eVarS 0) (eC (.int 1))) aNil)) (eCall G (aCons (eOp dIx (eVarS 0) (eC (.int 2))) aNil))))) sSkip) sSkip) (sSeq (sRet [] (eOp dAdd (eC (.int 1)) (eCall G (aCons (eOp dIx (eVarS 0) (eNeg (eC (.int 1)))) aNil)))) sSkip)))
noncomputable def R_l_view_deep : Nat → List D → Res D
  | 0 => fun _ => .bad
  | j + 1 => runDef 1 1 (b_l_view_deep (R_l_view_deep j))
noncomputable def F_l_view_deep : List D → Res D := R_l_view_deep 12
/-! _law_measure_by -/
abbrev s_l_measure_by : Stmt := top 27
noncomputable def b_l_measure_by : DL.Env → Out := (sSeq (sSet [] 2 (eOp dSub (eOp dMod (eOp dDiv (eVarS 0) (eC (.int 7))) (eC (.int 131))) (eC (.int 65)))) (sSeq (sSet [] 3 (eOp dAdd (eVarS 2) (eOp dMod (eOp dDiv (eVarS 0) (eC (.int 917))) (eC (.int 40))))) (sSeq (sSet [] 4 (eAnd (eOp dLe (eNeg (eC (.int 64))) (eVarS 2)) (eOp dLe (eVarS 3) (eC (.int 64))))) (sSeq (sSet [] 5 (eLst (aCons (eTup (aCons (eTup (aCons (eC (.str "count")) aNil)) (aCons (eC (.bl true)) aNil))) (aCons (eTup (aCons (eTup (aCons (eC (.str "kinds")) (aCons (eVarS 1) aNil))) (aCons (eC (.bl true)) aNil))) (aCons (eTup (aCons (eTup (aCons (eC (.str "sum")) (aCons (eVarS 1) (aCons (eVarS 2) (aCons (eVarS 3) aNil))))) (aCons (eVarS 4) aNil))) aNil))))) (sSeq (sSet [] 5 (eOp dAdd (eVarS 5) (eLst (aCons (eTup (aCons (eTup (aCons (eC (.str "sum")) (aCons (eVarS 1) (aCons (eOp dAdd (eC (.int 1)) (eOp dMod (eOp dDiv (eVarS 0) (eC (.int 7))) (eC (.int 60)))) (aCons (eC (.int 0)) aNil))))) (aCons (eC (.bl false)) aNil))) (aCons (eTup (aCons (eTup (aCons (eC (.str "count")) (aCons (eVarS 1) aNil))) (aCons (eC (.bl false)) aNil))) (aCons (eTup (aCons (eTup (aCons (eC (.str "kinds")) aNil)) (aCons (eC (.bl false)) aNil))) aNil)))))) (sSeq (sSet [] 5 (eOp dAdd (eVarS 5) (eLst (aCons (eTup (aCons (eTup (aCons (eC (.str "sum")) (aCons (eVarS 2) (aCons (eVarS 3) (aCons (eVarS 1) aNil))))) (aCons (eC (.bl false)) aNil))) (aCons (eTup (aCons (eTup (aCons (eC (.str "kinds")) (aCons (eTup (aCons (eC (.str "num")) (aCons (eC (.str "a")) aNil))) aNil))) (aCons (eC (.bl false)) aNil))) (aCons (eTup (aCons (eTup (aCons (eC (.str "mean")) (aCons (eVarS 1) aNil))) (aCons (eC (.bl false)) aNil))) aNil)))))) (sSeq (sSet [] 5 (eOp dAdd (eVarS 5) (eLst (aCons (eTup (aCons (eTup aNil) (aCons (eC (.bl false)) aNil))) (aCons (eTup (aCons (eTup (aCons (eC (.str "sum")) (aCons (eVarS 1) (aCons (eC (.int 0)) aNil)))) (aCons (eC (.bl false)) aNil))) (aCons (eTup (aCons (eVarS 1) (aCons (eC (.bl false)) aNil))) (aCons (eTup (aCons (eC (.str "count")) (aCons (eC (.bl false)) aNil))) aNil))))))) (sSeq (sSet [] 6 (eCall F_l_no_term (aCons (eOp dDiv (eVarS 0) (eC (.int 16))) (aCons (eVarS 1) aNil)))) (sSeq (sSet [] 5 (eOp dAdd (eVarS 5) (eLst (aCons (eTup (aCons (eTup (aCons (eC (.str "sum")) (aCons (eVarS 1) (aCons (eC (.int 65)) (aCons (eC (.int 65)) aNil))))) (aCons (eC (.bl false)) aNil))) (aCons (eTup (aCons (eTup (aCons (eC (.str "sum")) (aCons (eVarS 6) (aCons (eC (.int 0)) (aCons (eC (.int 1)) aNil))))) (aCons (eC (.bl false)) aNil))) (aCons (eTup (aCons (eTup (aCons (eC (.str "kinds")) (aCons (eVarS 6) aNil))) (aCons (eC (.bl false)) aNil))) aNil)))))) (sSeq (sRet [] (eOp dIxA (eVarS 5) (eOp dMod (eVarS 0) (eC (.int 16))))) sSkip))))))))))
noncomputable def F_l_measure_by : List D → Res D := runDef 2 7 b_l_measure_by
/-! is_measure -/
abbrev s_is_measure : Stmt := top 11
noncomputable def b_is_measure : DL.Env → Out := (sSeq (sIf [] (bNot (bTruth (eCall F_headed (aCons (eVarS 0) aNil)))) (sSeq (sRet [] (eC (.bl false))) sSkip) sSkip) (sSeq (sIf [] (bTest dEq (eOp dIx (eVarS 0) (eC (.int 0))) (eC (.str "count"))) (sSeq (sRet [] (eOp dEq (e1 dLen (eVarS 0)) (eC (.int 1)))) sSkip) sSkip) (sSeq (sIf [] (bTest dEq (eOp dIx (eVarS 0) (eC (.int 0))) (eC (.str "kinds"))) (sSeq (sRet [] (eAnd (eOp dEq (e1 dLen (eVarS 0)) (eC (.int 2))) (eCall F_is_term (aCons (eOp dIx (eVarS 0) (eC (.int 1))) aNil)))) sSkip) sSkip) (sSeq (sIf [] (bOr (bTest dNe (eOp dIx (eVarS 0) (eC (.int 0))) (eC (.str "sum"))) (bOr (bTest dNe (e1 dLen (eVarS 0)) (eC (.int 4))) (bNot (bTruth (eCall F_is_term (aCons (eOp dIx (eVarS 0) (eC (.int 1))) aNil)))))) (sSeq (sRet [] (eC (.bl false))) sSkip) sSkip) (sSeq (sRet [] (eAnd (eCall F_lies_between (aCons (eOp dIx (eVarS 0) (eC (.int 2))) (aCons (eNeg (eC (.int 64))) (aCons (eC (.int 64)) aNil)))) (eAnd (eCall F_lies_between (aCons (eOp dIx (eVarS 0) (eC (.int 3))) (aCons (eNeg (eC (.int 64))) (aCons (eC (.int 64)) aNil)))) (eOp dLe (eOp dIx (eVarS 0) (eC (.int 2))) (eOp dIx (eVarS 0) (eC (.int 3))))))) sSkip)))))
noncomputable def F_is_measure : List D → Res D := runDef 1 1 b_is_measure
/-! law -/
abbrev s_law : Stmt := top 28
noncomputable def b_law_2 : DL.Env → Out := (sSeq (sSet [] 7 (eOp dIxA (eLst (aCons (eTup (aCons (eC (.str "unlike")) (aCons (eVarS 7) aNil))) (aCons (eTup (aCons (eC (.str "keep")) (aCons (eTup (aCons (eC (.str "num")) (aCons (eC (.int 1)) aNil))) (aCons (eVarS 7) aNil)))) (aCons (eTup (aCons (eC (.str "both")) (aCons (eVarS 7) (aCons (eTup (aCons (eC (.str "all")) aNil)) aNil)))) aNil)))) (eOp dMod (eOp dAdd (eVarS 5) (eVarS 9)) (eC (.int 3))))) sSkip)
noncomputable def b_law_1 : DL.Env → Out := (sSeq (sSet [] 5 (eOp dMod (eOp dIxA (eVarS 1) (eVarS 4)) (eOp dPow (eC (.int 10)) (eC (.int 30))))) (sSeq (sSet [] 6 (eOp dIxA (eVarS 2) (eOp dMod (eVarS 4) (e1 dLen (eVarS 2))))) (sSeq (sSet [] 7 (eOp dIxA (eVarS 3) (eOp dMod (eVarS 4) (e1 dLen (eVarS 3))))) (sSeq (sIf [] (bOr (bTest dIsNot (eCall F_is_view (aCons (eVarS 7) aNil)) (eC (.bl true))) (bTest dIsNot (eCall F_is_view (aCons (eCall F_l_view_spoiled (aCons (eVarS 7) (aCons (eOp dDiv (eVarS 5) (eC (.int 30))) (aCons (eVarS 5) (aCons (eVarS 6) aNil))))) aNil)) (eC (.bl false)))) (sSeq (sRet [] (eC (.bl false))) sSkip) sSkip) (sSeq (sSet [] 8 (eOp dLe (eOp dAdd (eCall F_l_view_deep (aCons (eVarS 7) aNil)) (eOp dMod (eOp dDiv (eVarS 5) (eC (.int 2))) (eC (.int 7)))) (eC (.int 6)))) (sSeq (sFor [] (.nm 9) (iRange1 (eOp dMod (eOp dDiv (eVarS 5) (eC (.int 2))) (eC (.int 7)))) b_law_2) (sSeq (sSet [] 10 (eCall F_is_view (aCons (eVarS 7) aNil))) (sSeq (sIf [] (bOr (bNot (bTruth (e1 isBool (eVarS 10)))) (bTest dNe (eVarS 10) (eVarS 8))) (sSeq (sRet [] (eC (.bl false))) sSkip) sSkip) (sSeq (sAsg [] (.tp [(.nm 11), (.nm 12)]) (eCall F_l_measure_by (aCons (eVarS 5) (aCons (eVarS 6) aNil)))) (sSeq (sSet [] 10 (eCall F_is_measure (aCons (eVarS 11) aNil))) (sSeq (sIf [] (bOr (bNot (bTruth (e1 isBool (eVarS 10)))) (bTest dNe (eVarS 10) (eVarS 12))) (sSeq (sRet [] (eC (.bl false))) sSkip) sSkip) sSkip)))))))))))
noncomputable def b_law : DL.Env → Out := (sSeq (sSet [] 1 (eOp dAdd (eVarS 0) (eLst (aCons (eC (.int 4)) aNil)))) (sSeq (sSet [] 2 (eCall F_l_grown (aCons (eVarS 1) aNil))) (sSeq (sSet [] 3 (eCall F_l_view_grown (aCons (eVarS 1) (aCons (eVarS 2) aNil)))) (sSeq (sFor [] (.nm 4) (iRange1 (e1 dLen (eVarS 1))) b_law_1) (sSeq (sRet [] (eC (.bl true))) sSkip)))))
noncomputable def F_law : List D → Res D := runDef 1 13 b_law
@[simp] theorem strok_0 : PyData.strOk "num" = true := by decide +kernel
@[simp] theorem strok_1 : PyData.strOk "field" = true := by decide +kernel
@[simp] theorem strok_2 : PyData.strOk "name" = true := by decide +kernel
@[simp] theorem strok_3 : PyData.strOk "a" = true := by decide +kernel
@[simp] theorem strok_4 : PyData.strOk "of" = true := by decide +kernel
@[simp] theorem strok_5 : PyData.strOk "add" = true := by decide +kernel
@[simp] theorem strok_6 : PyData.strOk "zzzzzzzz" = true := by decide +kernel
@[simp] theorem strok_7 : PyData.strOk "all" = true := by decide +kernel
@[simp] theorem strok_8 : PyData.strOk "pick" = true := by decide +kernel
@[simp] theorem strok_9 : PyData.strOk "q" = true := by decide +kernel
@[simp] theorem strok_10 : PyData.strOk "end" = true := by decide +kernel
@[simp] theorem strok_11 : PyData.strOk "not" = true := by decide +kernel
@[simp] theorem strok_12 : PyData.strOk "sub" = true := by decide +kernel
@[simp] theorem strok_13 : PyData.strOk "mul" = true := by decide +kernel
@[simp] theorem strok_14 : PyData.strOk "quo" = true := by decide +kernel
@[simp] theorem strok_15 : PyData.strOk "less" = true := by decide +kernel
@[simp] theorem strok_16 : PyData.strOk "same" = true := by decide +kernel
@[simp] theorem strok_17 : PyData.strOk "both" = true := by decide +kernel
@[simp] theorem strok_18 : PyData.strOk "any" = true := by decide +kernel
@[simp] theorem strok_19 : PyData.strOk "keep" = true := by decide +kernel
@[simp] theorem strok_20 : PyData.strOk "rows" = true := by decide +kernel
@[simp] theorem strok_21 : PyData.strOk "unlike" = true := by decide +kernel
@[simp] theorem strok_22 : PyData.strOk "cap" = true := by decide +kernel
@[simp] theorem strok_23 : PyData.strOk "match" = true := by decide +kernel
@[simp] theorem strok_24 : PyData.strOk "" = true := by decide +kernel
@[simp] theorem strok_25 : PyData.strOk "aB" = true := by decide +kernel
@[simp] theorem strok_26 : PyData.strOk "pow" = true := by decide +kernel
@[simp] theorem strok_27 : PyData.strOk "All" = true := by decide +kernel
@[simp] theorem strok_28 : PyData.strOk "join" = true := by decide +kernel
@[simp] theorem strok_29 : PyData.strOk "count" = true := by decide +kernel
@[simp] theorem strok_30 : PyData.strOk "kinds" = true := by decide +kernel
@[simp] theorem strok_31 : PyData.strOk "sum" = true := by decide +kernel
@[simp] theorem strok_32 : PyData.strOk "mean" = true := by decide +kernel
@[simp] theorem str_0_1 : (Str.ofString "num" = Str.ofString "field") = False := eq_false (by decide +kernel)
@[simp] theorem str_0_2 : (Str.ofString "num" = Str.ofString "name") = False := eq_false (by decide +kernel)
@[simp] theorem str_0_3 : (Str.ofString "num" = Str.ofString "a") = False := eq_false (by decide +kernel)
@[simp] theorem str_0_4 : (Str.ofString "num" = Str.ofString "of") = False := eq_false (by decide +kernel)
@[simp] theorem str_0_5 : (Str.ofString "num" = Str.ofString "add") = False := eq_false (by decide +kernel)
@[simp] theorem str_0_6 : (Str.ofString "num" = Str.ofString "zzzzzzzz") = False := eq_false (by decide +kernel)
@[simp] theorem str_0_7 : (Str.ofString "num" = Str.ofString "all") = False := eq_false (by decide +kernel)
@[simp] theorem str_0_8 : (Str.ofString "num" = Str.ofString "pick") = False := eq_false (by decide +kernel)
@[simp] theorem str_0_9 : (Str.ofString "num" = Str.ofString "q") = False := eq_false (by decide +kernel)
@[simp] theorem str_0_10 : (Str.ofString "num" = Str.ofString "end") = False := eq_false (by decide +kernel)
@[simp] theorem str_0_11 : (Str.ofString "num" = Str.ofString "not") = False := eq_false (by decide +kernel)
@[simp] theorem str_0_12 : (Str.ofString "num" = Str.ofString "sub") = False := eq_false (by decide +kernel)
@[simp] theorem str_0_13 : (Str.ofString "num" = Str.ofString "mul") = False := eq_false (by decide +kernel)
@[simp] theorem str_0_14 : (Str.ofString "num" = Str.ofString "quo") = False := eq_false (by decide +kernel)
@[simp] theorem str_0_15 : (Str.ofString "num" = Str.ofString "less") = False := eq_false (by decide +kernel)
@[simp] theorem str_0_16 : (Str.ofString "num" = Str.ofString "same") = False := eq_false (by decide +kernel)
@[simp] theorem str_0_17 : (Str.ofString "num" = Str.ofString "both") = False := eq_false (by decide +kernel)
@[simp] theorem str_0_18 : (Str.ofString "num" = Str.ofString "any") = False := eq_false (by decide +kernel)
@[simp] theorem str_0_19 : (Str.ofString "num" = Str.ofString "keep") = False := eq_false (by decide +kernel)
@[simp] theorem str_0_20 : (Str.ofString "num" = Str.ofString "rows") = False := eq_false (by decide +kernel)
@[simp] theorem str_0_21 : (Str.ofString "num" = Str.ofString "unlike") = False := eq_false (by decide +kernel)
@[simp] theorem str_0_22 : (Str.ofString "num" = Str.ofString "cap") = False := eq_false (by decide +kernel)
@[simp] theorem str_0_23 : (Str.ofString "num" = Str.ofString "match") = False := eq_false (by decide +kernel)
@[simp] theorem str_0_24 : (Str.ofString "num" = Str.ofString "") = False := eq_false (by decide +kernel)
@[simp] theorem str_0_25 : (Str.ofString "num" = Str.ofString "aB") = False := eq_false (by decide +kernel)
@[simp] theorem str_0_26 : (Str.ofString "num" = Str.ofString "pow") = False := eq_false (by decide +kernel)
@[simp] theorem str_0_27 : (Str.ofString "num" = Str.ofString "All") = False := eq_false (by decide +kernel)
@[simp] theorem str_0_28 : (Str.ofString "num" = Str.ofString "join") = False := eq_false (by decide +kernel)
@[simp] theorem str_0_29 : (Str.ofString "num" = Str.ofString "count") = False := eq_false (by decide +kernel)
@[simp] theorem str_0_30 : (Str.ofString "num" = Str.ofString "kinds") = False := eq_false (by decide +kernel)
@[simp] theorem str_0_31 : (Str.ofString "num" = Str.ofString "sum") = False := eq_false (by decide +kernel)
@[simp] theorem str_0_32 : (Str.ofString "num" = Str.ofString "mean") = False := eq_false (by decide +kernel)
@[simp] theorem str_1_0 : (Str.ofString "field" = Str.ofString "num") = False := eq_false (by decide +kernel)
@[simp] theorem str_1_2 : (Str.ofString "field" = Str.ofString "name") = False := eq_false (by decide +kernel)
@[simp] theorem str_1_3 : (Str.ofString "field" = Str.ofString "a") = False := eq_false (by decide +kernel)
@[simp] theorem str_1_4 : (Str.ofString "field" = Str.ofString "of") = False := eq_false (by decide +kernel)
@[simp] theorem str_1_5 : (Str.ofString "field" = Str.ofString "add") = False := eq_false (by decide +kernel)
@[simp] theorem str_1_6 : (Str.ofString "field" = Str.ofString "zzzzzzzz") = False := eq_false (by decide +kernel)
@[simp] theorem str_1_7 : (Str.ofString "field" = Str.ofString "all") = False := eq_false (by decide +kernel)
@[simp] theorem str_1_8 : (Str.ofString "field" = Str.ofString "pick") = False := eq_false (by decide +kernel)
@[simp] theorem str_1_9 : (Str.ofString "field" = Str.ofString "q") = False := eq_false (by decide +kernel)
@[simp] theorem str_1_10 : (Str.ofString "field" = Str.ofString "end") = False := eq_false (by decide +kernel)
@[simp] theorem str_1_11 : (Str.ofString "field" = Str.ofString "not") = False := eq_false (by decide +kernel)
@[simp] theorem str_1_12 : (Str.ofString "field" = Str.ofString "sub") = False := eq_false (by decide +kernel)
@[simp] theorem str_1_13 : (Str.ofString "field" = Str.ofString "mul") = False := eq_false (by decide +kernel)
@[simp] theorem str_1_14 : (Str.ofString "field" = Str.ofString "quo") = False := eq_false (by decide +kernel)
@[simp] theorem str_1_15 : (Str.ofString "field" = Str.ofString "less") = False := eq_false (by decide +kernel)
@[simp] theorem str_1_16 : (Str.ofString "field" = Str.ofString "same") = False := eq_false (by decide +kernel)
@[simp] theorem str_1_17 : (Str.ofString "field" = Str.ofString "both") = False := eq_false (by decide +kernel)
@[simp] theorem str_1_18 : (Str.ofString "field" = Str.ofString "any") = False := eq_false (by decide +kernel)
@[simp] theorem str_1_19 : (Str.ofString "field" = Str.ofString "keep") = False := eq_false (by decide +kernel)
@[simp] theorem str_1_20 : (Str.ofString "field" = Str.ofString "rows") = False := eq_false (by decide +kernel)
@[simp] theorem str_1_21 : (Str.ofString "field" = Str.ofString "unlike") = False := eq_false (by decide +kernel)
@[simp] theorem str_1_22 : (Str.ofString "field" = Str.ofString "cap") = False := eq_false (by decide +kernel)
@[simp] theorem str_1_23 : (Str.ofString "field" = Str.ofString "match") = False := eq_false (by decide +kernel)
@[simp] theorem str_1_24 : (Str.ofString "field" = Str.ofString "") = False := eq_false (by decide +kernel)
@[simp] theorem str_1_25 : (Str.ofString "field" = Str.ofString "aB") = False := eq_false (by decide +kernel)
@[simp] theorem str_1_26 : (Str.ofString "field" = Str.ofString "pow") = False := eq_false (by decide +kernel)
@[simp] theorem str_1_27 : (Str.ofString "field" = Str.ofString "All") = False := eq_false (by decide +kernel)
@[simp] theorem str_1_28 : (Str.ofString "field" = Str.ofString "join") = False := eq_false (by decide +kernel)
@[simp] theorem str_1_29 : (Str.ofString "field" = Str.ofString "count") = False := eq_false (by decide +kernel)
@[simp] theorem str_1_30 : (Str.ofString "field" = Str.ofString "kinds") = False := eq_false (by decide +kernel)
@[simp] theorem str_1_31 : (Str.ofString "field" = Str.ofString "sum") = False := eq_false (by decide +kernel)
@[simp] theorem str_1_32 : (Str.ofString "field" = Str.ofString "mean") = False := eq_false (by decide +kernel)
@[simp] theorem str_2_0 : (Str.ofString "name" = Str.ofString "num") = False := eq_false (by decide +kernel)
@[simp] theorem str_2_1 : (Str.ofString "name" = Str.ofString "field") = False := eq_false (by decide +kernel)
@[simp] theorem str_2_3 : (Str.ofString "name" = Str.ofString "a") = False := eq_false (by decide +kernel)
@[simp] theorem str_2_4 : (Str.ofString "name" = Str.ofString "of") = False := eq_false (by decide +kernel)
@[simp] theorem str_2_5 : (Str.ofString "name" = Str.ofString "add") = False := eq_false (by decide +kernel)
@[simp] theorem str_2_6 : (Str.ofString "name" = Str.ofString "zzzzzzzz") = False := eq_false (by decide +kernel)
@[simp] theorem str_2_7 : (Str.ofString "name" = Str.ofString "all") = False := eq_false (by decide +kernel)
@[simp] theorem str_2_8 : (Str.ofString "name" = Str.ofString "pick") = False := eq_false (by decide +kernel)
@[simp] theorem str_2_9 : (Str.ofString "name" = Str.ofString "q") = False := eq_false (by decide +kernel)
@[simp] theorem str_2_10 : (Str.ofString "name" = Str.ofString "end") = False := eq_false (by decide +kernel)
@[simp] theorem str_2_11 : (Str.ofString "name" = Str.ofString "not") = False := eq_false (by decide +kernel)
@[simp] theorem str_2_12 : (Str.ofString "name" = Str.ofString "sub") = False := eq_false (by decide +kernel)
@[simp] theorem str_2_13 : (Str.ofString "name" = Str.ofString "mul") = False := eq_false (by decide +kernel)
@[simp] theorem str_2_14 : (Str.ofString "name" = Str.ofString "quo") = False := eq_false (by decide +kernel)
@[simp] theorem str_2_15 : (Str.ofString "name" = Str.ofString "less") = False := eq_false (by decide +kernel)
@[simp] theorem str_2_16 : (Str.ofString "name" = Str.ofString "same") = False := eq_false (by decide +kernel)
@[simp] theorem str_2_17 : (Str.ofString "name" = Str.ofString "both") = False := eq_false (by decide +kernel)
@[simp] theorem str_2_18 : (Str.ofString "name" = Str.ofString "any") = False := eq_false (by decide +kernel)
@[simp] theorem str_2_19 : (Str.ofString "name" = Str.ofString "keep") = False := eq_false (by decide +kernel)
@[simp] theorem str_2_20 : (Str.ofString "name" = Str.ofString "rows") = False := eq_false (by decide +kernel)
@[simp] theorem str_2_21 : (Str.ofString "name" = Str.ofString "unlike") = False := eq_false (by decide +kernel)
@[simp] theorem str_2_22 : (Str.ofString "name" = Str.ofString "cap") = False := eq_false (by decide +kernel)
@[simp] theorem str_2_23 : (Str.ofString "name" = Str.ofString "match") = False := eq_false (by decide +kernel)
@[simp] theorem str_2_24 : (Str.ofString "name" = Str.ofString "") = False := eq_false (by decide +kernel)
@[simp] theorem str_2_25 : (Str.ofString "name" = Str.ofString "aB") = False := eq_false (by decide +kernel)
@[simp] theorem str_2_26 : (Str.ofString "name" = Str.ofString "pow") = False := eq_false (by decide +kernel)
@[simp] theorem str_2_27 : (Str.ofString "name" = Str.ofString "All") = False := eq_false (by decide +kernel)
@[simp] theorem str_2_28 : (Str.ofString "name" = Str.ofString "join") = False := eq_false (by decide +kernel)
@[simp] theorem str_2_29 : (Str.ofString "name" = Str.ofString "count") = False := eq_false (by decide +kernel)
@[simp] theorem str_2_30 : (Str.ofString "name" = Str.ofString "kinds") = False := eq_false (by decide +kernel)
@[simp] theorem str_2_31 : (Str.ofString "name" = Str.ofString "sum") = False := eq_false (by decide +kernel)
@[simp] theorem str_2_32 : (Str.ofString "name" = Str.ofString "mean") = False := eq_false (by decide +kernel)
@[simp] theorem str_3_0 : (Str.ofString "a" = Str.ofString "num") = False := eq_false (by decide +kernel)
@[simp] theorem str_3_1 : (Str.ofString "a" = Str.ofString "field") = False := eq_false (by decide +kernel)
@[simp] theorem str_3_2 : (Str.ofString "a" = Str.ofString "name") = False := eq_false (by decide +kernel)
@[simp] theorem str_3_4 : (Str.ofString "a" = Str.ofString "of") = False := eq_false (by decide +kernel)
@[simp] theorem str_3_5 : (Str.ofString "a" = Str.ofString "add") = False := eq_false (by decide +kernel)
@[simp] theorem str_3_6 : (Str.ofString "a" = Str.ofString "zzzzzzzz") = False := eq_false (by decide +kernel)
@[simp] theorem str_3_7 : (Str.ofString "a" = Str.ofString "all") = False := eq_false (by decide +kernel)
@[simp] theorem str_3_8 : (Str.ofString "a" = Str.ofString "pick") = False := eq_false (by decide +kernel)
@[simp] theorem str_3_9 : (Str.ofString "a" = Str.ofString "q") = False := eq_false (by decide +kernel)
@[simp] theorem str_3_10 : (Str.ofString "a" = Str.ofString "end") = False := eq_false (by decide +kernel)
@[simp] theorem str_3_11 : (Str.ofString "a" = Str.ofString "not") = False := eq_false (by decide +kernel)
@[simp] theorem str_3_12 : (Str.ofString "a" = Str.ofString "sub") = False := eq_false (by decide +kernel)
@[simp] theorem str_3_13 : (Str.ofString "a" = Str.ofString "mul") = False := eq_false (by decide +kernel)
@[simp] theorem str_3_14 : (Str.ofString "a" = Str.ofString "quo") = False := eq_false (by decide +kernel)
@[simp] theorem str_3_15 : (Str.ofString "a" = Str.ofString "less") = False := eq_false (by decide +kernel)
@[simp] theorem str_3_16 : (Str.ofString "a" = Str.ofString "same") = False := eq_false (by decide +kernel)
@[simp] theorem str_3_17 : (Str.ofString "a" = Str.ofString "both") = False := eq_false (by decide +kernel)
@[simp] theorem str_3_18 : (Str.ofString "a" = Str.ofString "any") = False := eq_false (by decide +kernel)
@[simp] theorem str_3_19 : (Str.ofString "a" = Str.ofString "keep") = False := eq_false (by decide +kernel)
@[simp] theorem str_3_20 : (Str.ofString "a" = Str.ofString "rows") = False := eq_false (by decide +kernel)
@[simp] theorem str_3_21 : (Str.ofString "a" = Str.ofString "unlike") = False := eq_false (by decide +kernel)
@[simp] theorem str_3_22 : (Str.ofString "a" = Str.ofString "cap") = False := eq_false (by decide +kernel)
@[simp] theorem str_3_23 : (Str.ofString "a" = Str.ofString "match") = False := eq_false (by decide +kernel)
@[simp] theorem str_3_24 : (Str.ofString "a" = Str.ofString "") = False := eq_false (by decide +kernel)
@[simp] theorem str_3_25 : (Str.ofString "a" = Str.ofString "aB") = False := eq_false (by decide +kernel)
@[simp] theorem str_3_26 : (Str.ofString "a" = Str.ofString "pow") = False := eq_false (by decide +kernel)
@[simp] theorem str_3_27 : (Str.ofString "a" = Str.ofString "All") = False := eq_false (by decide +kernel)
@[simp] theorem str_3_28 : (Str.ofString "a" = Str.ofString "join") = False := eq_false (by decide +kernel)
@[simp] theorem str_3_29 : (Str.ofString "a" = Str.ofString "count") = False := eq_false (by decide +kernel)
@[simp] theorem str_3_30 : (Str.ofString "a" = Str.ofString "kinds") = False := eq_false (by decide +kernel)
@[simp] theorem str_3_31 : (Str.ofString "a" = Str.ofString "sum") = False := eq_false (by decide +kernel)
@[simp] theorem str_3_32 : (Str.ofString "a" = Str.ofString "mean") = False := eq_false (by decide +kernel)
@[simp] theorem str_4_0 : (Str.ofString "of" = Str.ofString "num") = False := eq_false (by decide +kernel)
@[simp] theorem str_4_1 : (Str.ofString "of" = Str.ofString "field") = False := eq_false (by decide +kernel)
@[simp] theorem str_4_2 : (Str.ofString "of" = Str.ofString "name") = False := eq_false (by decide +kernel)
@[simp] theorem str_4_3 : (Str.ofString "of" = Str.ofString "a") = False := eq_false (by decide +kernel)
@[simp] theorem str_4_5 : (Str.ofString "of" = Str.ofString "add") = False := eq_false (by decide +kernel)
@[simp] theorem str_4_6 : (Str.ofString "of" = Str.ofString "zzzzzzzz") = False := eq_false (by decide +kernel)
@[simp] theorem str_4_7 : (Str.ofString "of" = Str.ofString "all") = False := eq_false (by decide +kernel)
@[simp] theorem str_4_8 : (Str.ofString "of" = Str.ofString "pick") = False := eq_false (by decide +kernel)
@[simp] theorem str_4_9 : (Str.ofString "of" = Str.ofString "q") = False := eq_false (by decide +kernel)
@[simp] theorem str_4_10 : (Str.ofString "of" = Str.ofString "end") = False := eq_false (by decide +kernel)
@[simp] theorem str_4_11 : (Str.ofString "of" = Str.ofString "not") = False := eq_false (by decide +kernel)
@[simp] theorem str_4_12 : (Str.ofString "of" = Str.ofString "sub") = False := eq_false (by decide +kernel)
@[simp] theorem str_4_13 : (Str.ofString "of" = Str.ofString "mul") = False := eq_false (by decide +kernel)
@[simp] theorem str_4_14 : (Str.ofString "of" = Str.ofString "quo") = False := eq_false (by decide +kernel)
@[simp] theorem str_4_15 : (Str.ofString "of" = Str.ofString "less") = False := eq_false (by decide +kernel)
@[simp] theorem str_4_16 : (Str.ofString "of" = Str.ofString "same") = False := eq_false (by decide +kernel)
@[simp] theorem str_4_17 : (Str.ofString "of" = Str.ofString "both") = False := eq_false (by decide +kernel)
@[simp] theorem str_4_18 : (Str.ofString "of" = Str.ofString "any") = False := eq_false (by decide +kernel)
@[simp] theorem str_4_19 : (Str.ofString "of" = Str.ofString "keep") = False := eq_false (by decide +kernel)
@[simp] theorem str_4_20 : (Str.ofString "of" = Str.ofString "rows") = False := eq_false (by decide +kernel)
@[simp] theorem str_4_21 : (Str.ofString "of" = Str.ofString "unlike") = False := eq_false (by decide +kernel)
@[simp] theorem str_4_22 : (Str.ofString "of" = Str.ofString "cap") = False := eq_false (by decide +kernel)
@[simp] theorem str_4_23 : (Str.ofString "of" = Str.ofString "match") = False := eq_false (by decide +kernel)
@[simp] theorem str_4_24 : (Str.ofString "of" = Str.ofString "") = False := eq_false (by decide +kernel)
@[simp] theorem str_4_25 : (Str.ofString "of" = Str.ofString "aB") = False := eq_false (by decide +kernel)
@[simp] theorem str_4_26 : (Str.ofString "of" = Str.ofString "pow") = False := eq_false (by decide +kernel)
@[simp] theorem str_4_27 : (Str.ofString "of" = Str.ofString "All") = False := eq_false (by decide +kernel)
@[simp] theorem str_4_28 : (Str.ofString "of" = Str.ofString "join") = False := eq_false (by decide +kernel)
@[simp] theorem str_4_29 : (Str.ofString "of" = Str.ofString "count") = False := eq_false (by decide +kernel)
@[simp] theorem str_4_30 : (Str.ofString "of" = Str.ofString "kinds") = False := eq_false (by decide +kernel)
@[simp] theorem str_4_31 : (Str.ofString "of" = Str.ofString "sum") = False := eq_false (by decide +kernel)
@[simp] theorem str_4_32 : (Str.ofString "of" = Str.ofString "mean") = False := eq_false (by decide +kernel)
@[simp] theorem str_5_0 : (Str.ofString "add" = Str.ofString "num") = False := eq_false (by decide +kernel)
@[simp] theorem str_5_1 : (Str.ofString "add" = Str.ofString "field") = False := eq_false (by decide +kernel)
@[simp] theorem str_5_2 : (Str.ofString "add" = Str.ofString "name") = False := eq_false (by decide +kernel)
@[simp] theorem str_5_3 : (Str.ofString "add" = Str.ofString "a") = False := eq_false (by decide +kernel)
@[simp] theorem str_5_4 : (Str.ofString "add" = Str.ofString "of") = False := eq_false (by decide +kernel)
@[simp] theorem str_5_6 : (Str.ofString "add" = Str.ofString "zzzzzzzz") = False := eq_false (by decide +kernel)
@[simp] theorem str_5_7 : (Str.ofString "add" = Str.ofString "all") = False := eq_false (by decide +kernel)
@[simp] theorem str_5_8 : (Str.ofString "add" = Str.ofString "pick") = False := eq_false (by decide +kernel)
@[simp] theorem str_5_9 : (Str.ofString "add" = Str.ofString "q") = False := eq_false (by decide +kernel)
@[simp] theorem str_5_10 : (Str.ofString "add" = Str.ofString "end") = False := eq_false (by decide +kernel)
@[simp] theorem str_5_11 : (Str.ofString "add" = Str.ofString "not") = False := eq_false (by decide +kernel)
@[simp] theorem str_5_12 : (Str.ofString "add" = Str.ofString "sub") = False := eq_false (by decide +kernel)
@[simp] theorem str_5_13 : (Str.ofString "add" = Str.ofString "mul") = False := eq_false (by decide +kernel)
@[simp] theorem str_5_14 : (Str.ofString "add" = Str.ofString "quo") = False := eq_false (by decide +kernel)
@[simp] theorem str_5_15 : (Str.ofString "add" = Str.ofString "less") = False := eq_false (by decide +kernel)
@[simp] theorem str_5_16 : (Str.ofString "add" = Str.ofString "same") = False := eq_false (by decide +kernel)
@[simp] theorem str_5_17 : (Str.ofString "add" = Str.ofString "both") = False := eq_false (by decide +kernel)
@[simp] theorem str_5_18 : (Str.ofString "add" = Str.ofString "any") = False := eq_false (by decide +kernel)
@[simp] theorem str_5_19 : (Str.ofString "add" = Str.ofString "keep") = False := eq_false (by decide +kernel)
@[simp] theorem str_5_20 : (Str.ofString "add" = Str.ofString "rows") = False := eq_false (by decide +kernel)
@[simp] theorem str_5_21 : (Str.ofString "add" = Str.ofString "unlike") = False := eq_false (by decide +kernel)
@[simp] theorem str_5_22 : (Str.ofString "add" = Str.ofString "cap") = False := eq_false (by decide +kernel)
@[simp] theorem str_5_23 : (Str.ofString "add" = Str.ofString "match") = False := eq_false (by decide +kernel)
@[simp] theorem str_5_24 : (Str.ofString "add" = Str.ofString "") = False := eq_false (by decide +kernel)
@[simp] theorem str_5_25 : (Str.ofString "add" = Str.ofString "aB") = False := eq_false (by decide +kernel)
@[simp] theorem str_5_26 : (Str.ofString "add" = Str.ofString "pow") = False := eq_false (by decide +kernel)
@[simp] theorem str_5_27 : (Str.ofString "add" = Str.ofString "All") = False := eq_false (by decide +kernel)
@[simp] theorem str_5_28 : (Str.ofString "add" = Str.ofString "join") = False := eq_false (by decide +kernel)
@[simp] theorem str_5_29 : (Str.ofString "add" = Str.ofString "count") = False := eq_false (by decide +kernel)
@[simp] theorem str_5_30 : (Str.ofString "add" = Str.ofString "kinds") = False := eq_false (by decide +kernel)
@[simp] theorem str_5_31 : (Str.ofString "add" = Str.ofString "sum") = False := eq_false (by decide +kernel)
@[simp] theorem str_5_32 : (Str.ofString "add" = Str.ofString "mean") = False := eq_false (by decide +kernel)
@[simp] theorem str_6_0 : (Str.ofString "zzzzzzzz" = Str.ofString "num") = False := eq_false (by decide +kernel)
@[simp] theorem str_6_1 : (Str.ofString "zzzzzzzz" = Str.ofString "field") = False := eq_false (by decide +kernel)
@[simp] theorem str_6_2 : (Str.ofString "zzzzzzzz" = Str.ofString "name") = False := eq_false (by decide +kernel)
@[simp] theorem str_6_3 : (Str.ofString "zzzzzzzz" = Str.ofString "a") = False := eq_false (by decide +kernel)
@[simp] theorem str_6_4 : (Str.ofString "zzzzzzzz" = Str.ofString "of") = False := eq_false (by decide +kernel)
@[simp] theorem str_6_5 : (Str.ofString "zzzzzzzz" = Str.ofString "add") = False := eq_false (by decide +kernel)
@[simp] theorem str_6_7 : (Str.ofString "zzzzzzzz" = Str.ofString "all") = False := eq_false (by decide +kernel)
@[simp] theorem str_6_8 : (Str.ofString "zzzzzzzz" = Str.ofString "pick") = False := eq_false (by decide +kernel)
@[simp] theorem str_6_9 : (Str.ofString "zzzzzzzz" = Str.ofString "q") = False := eq_false (by decide +kernel)
@[simp] theorem str_6_10 : (Str.ofString "zzzzzzzz" = Str.ofString "end") = False := eq_false (by decide +kernel)
@[simp] theorem str_6_11 : (Str.ofString "zzzzzzzz" = Str.ofString "not") = False := eq_false (by decide +kernel)
@[simp] theorem str_6_12 : (Str.ofString "zzzzzzzz" = Str.ofString "sub") = False := eq_false (by decide +kernel)
@[simp] theorem str_6_13 : (Str.ofString "zzzzzzzz" = Str.ofString "mul") = False := eq_false (by decide +kernel)
@[simp] theorem str_6_14 : (Str.ofString "zzzzzzzz" = Str.ofString "quo") = False := eq_false (by decide +kernel)
@[simp] theorem str_6_15 : (Str.ofString "zzzzzzzz" = Str.ofString "less") = False := eq_false (by decide +kernel)
@[simp] theorem str_6_16 : (Str.ofString "zzzzzzzz" = Str.ofString "same") = False := eq_false (by decide +kernel)
@[simp] theorem str_6_17 : (Str.ofString "zzzzzzzz" = Str.ofString "both") = False := eq_false (by decide +kernel)
@[simp] theorem str_6_18 : (Str.ofString "zzzzzzzz" = Str.ofString "any") = False := eq_false (by decide +kernel)
@[simp] theorem str_6_19 : (Str.ofString "zzzzzzzz" = Str.ofString "keep") = False := eq_false (by decide +kernel)
@[simp] theorem str_6_20 : (Str.ofString "zzzzzzzz" = Str.ofString "rows") = False := eq_false (by decide +kernel)
@[simp] theorem str_6_21 : (Str.ofString "zzzzzzzz" = Str.ofString "unlike") = False := eq_false (by decide +kernel)
@[simp] theorem str_6_22 : (Str.ofString "zzzzzzzz" = Str.ofString "cap") = False := eq_false (by decide +kernel)
@[simp] theorem str_6_23 : (Str.ofString "zzzzzzzz" = Str.ofString "match") = False := eq_false (by decide +kernel)
@[simp] theorem str_6_24 : (Str.ofString "zzzzzzzz" = Str.ofString "") = False := eq_false (by decide +kernel)
@[simp] theorem str_6_25 : (Str.ofString "zzzzzzzz" = Str.ofString "aB") = False := eq_false (by decide +kernel)
@[simp] theorem str_6_26 : (Str.ofString "zzzzzzzz" = Str.ofString "pow") = False := eq_false (by decide +kernel)
@[simp] theorem str_6_27 : (Str.ofString "zzzzzzzz" = Str.ofString "All") = False := eq_false (by decide +kernel)
@[simp] theorem str_6_28 : (Str.ofString "zzzzzzzz" = Str.ofString "join") = False := eq_false (by decide +kernel)
@[simp] theorem str_6_29 : (Str.ofString "zzzzzzzz" = Str.ofString "count") = False := eq_false (by decide +kernel)
@[simp] theorem str_6_30 : (Str.ofString "zzzzzzzz" = Str.ofString "kinds") = False := eq_false (by decide +kernel)
@[simp] theorem str_6_31 : (Str.ofString "zzzzzzzz" = Str.ofString "sum") = False := eq_false (by decide +kernel)
@[simp] theorem str_6_32 : (Str.ofString "zzzzzzzz" = Str.ofString "mean") = False := eq_false (by decide +kernel)
@[simp] theorem str_7_0 : (Str.ofString "all" = Str.ofString "num") = False := eq_false (by decide +kernel)
@[simp] theorem str_7_1 : (Str.ofString "all" = Str.ofString "field") = False := eq_false (by decide +kernel)
@[simp] theorem str_7_2 : (Str.ofString "all" = Str.ofString "name") = False := eq_false (by decide +kernel)
@[simp] theorem str_7_3 : (Str.ofString "all" = Str.ofString "a") = False := eq_false (by decide +kernel)
@[simp] theorem str_7_4 : (Str.ofString "all" = Str.ofString "of") = False := eq_false (by decide +kernel)
@[simp] theorem str_7_5 : (Str.ofString "all" = Str.ofString "add") = False := eq_false (by decide +kernel)
@[simp] theorem str_7_6 : (Str.ofString "all" = Str.ofString "zzzzzzzz") = False := eq_false (by decide +kernel)
@[simp] theorem str_7_8 : (Str.ofString "all" = Str.ofString "pick") = False := eq_false (by decide +kernel)
@[simp] theorem str_7_9 : (Str.ofString "all" = Str.ofString "q") = False := eq_false (by decide +kernel)
@[simp] theorem str_7_10 : (Str.ofString "all" = Str.ofString "end") = False := eq_false (by decide +kernel)
@[simp] theorem str_7_11 : (Str.ofString "all" = Str.ofString "not") = False := eq_false (by decide +kernel)
@[simp] theorem str_7_12 : (Str.ofString "all" = Str.ofString "sub") = False := eq_false (by decide +kernel)
@[simp] theorem str_7_13 : (Str.ofString "all" = Str.ofString "mul") = False := eq_false (by decide +kernel)
@[simp] theorem str_7_14 : (Str.ofString "all" = Str.ofString "quo") = False := eq_false (by decide +kernel)
@[simp] theorem str_7_15 : (Str.ofString "all" = Str.ofString "less") = False := eq_false (by decide +kernel)
@[simp] theorem str_7_16 : (Str.ofString "all" = Str.ofString "same") = False := eq_false (by decide +kernel)
@[simp] theorem str_7_17 : (Str.ofString "all" = Str.ofString "both") = False := eq_false (by decide +kernel)
@[simp] theorem str_7_18 : (Str.ofString "all" = Str.ofString "any") = False := eq_false (by decide +kernel)
@[simp] theorem str_7_19 : (Str.ofString "all" = Str.ofString "keep") = False := eq_false (by decide +kernel)
@[simp] theorem str_7_20 : (Str.ofString "all" = Str.ofString "rows") = False := eq_false (by decide +kernel)
@[simp] theorem str_7_21 : (Str.ofString "all" = Str.ofString "unlike") = False := eq_false (by decide +kernel)
@[simp] theorem str_7_22 : (Str.ofString "all" = Str.ofString "cap") = False := eq_false (by decide +kernel)
@[simp] theorem str_7_23 : (Str.ofString "all" = Str.ofString "match") = False := eq_false (by decide +kernel)
@[simp] theorem str_7_24 : (Str.ofString "all" = Str.ofString "") = False := eq_false (by decide +kernel)
@[simp] theorem str_7_25 : (Str.ofString "all" = Str.ofString "aB") = False := eq_false (by decide +kernel)
@[simp] theorem str_7_26 : (Str.ofString "all" = Str.ofString "pow") = False := eq_false (by decide +kernel)
@[simp] theorem str_7_27 : (Str.ofString "all" = Str.ofString "All") = False := eq_false (by decide +kernel)
@[simp] theorem str_7_28 : (Str.ofString "all" = Str.ofString "join") = False := eq_false (by decide +kernel)
@[simp] theorem str_7_29 : (Str.ofString "all" = Str.ofString "count") = False := eq_false (by decide +kernel)
@[simp] theorem str_7_30 : (Str.ofString "all" = Str.ofString "kinds") = False := eq_false (by decide +kernel)
@[simp] theorem str_7_31 : (Str.ofString "all" = Str.ofString "sum") = False := eq_false (by decide +kernel)
@[simp] theorem str_7_32 : (Str.ofString "all" = Str.ofString "mean") = False := eq_false (by decide +kernel)
@[simp] theorem str_8_0 : (Str.ofString "pick" = Str.ofString "num") = False := eq_false (by decide +kernel)
@[simp] theorem str_8_1 : (Str.ofString "pick" = Str.ofString "field") = False := eq_false (by decide +kernel)
@[simp] theorem str_8_2 : (Str.ofString "pick" = Str.ofString "name") = False := eq_false (by decide +kernel)
@[simp] theorem str_8_3 : (Str.ofString "pick" = Str.ofString "a") = False := eq_false (by decide +kernel)
@[simp] theorem str_8_4 : (Str.ofString "pick" = Str.ofString "of") = False := eq_false (by decide +kernel)
@[simp] theorem str_8_5 : (Str.ofString "pick" = Str.ofString "add") = False := eq_false (by decide +kernel)
@[simp] theorem str_8_6 : (Str.ofString "pick" = Str.ofString "zzzzzzzz") = False := eq_false (by decide +kernel)
@[simp] theorem str_8_7 : (Str.ofString "pick" = Str.ofString "all") = False := eq_false (by decide +kernel)
@[simp] theorem str_8_9 : (Str.ofString "pick" = Str.ofString "q") = False := eq_false (by decide +kernel)
@[simp] theorem str_8_10 : (Str.ofString "pick" = Str.ofString "end") = False := eq_false (by decide +kernel)
@[simp] theorem str_8_11 : (Str.ofString "pick" = Str.ofString "not") = False := eq_false (by decide +kernel)
@[simp] theorem str_8_12 : (Str.ofString "pick" = Str.ofString "sub") = False := eq_false (by decide +kernel)
@[simp] theorem str_8_13 : (Str.ofString "pick" = Str.ofString "mul") = False := eq_false (by decide +kernel)
@[simp] theorem str_8_14 : (Str.ofString "pick" = Str.ofString "quo") = False := eq_false (by decide +kernel)
@[simp] theorem str_8_15 : (Str.ofString "pick" = Str.ofString "less") = False := eq_false (by decide +kernel)
@[simp] theorem str_8_16 : (Str.ofString "pick" = Str.ofString "same") = False := eq_false (by decide +kernel)
@[simp] theorem str_8_17 : (Str.ofString "pick" = Str.ofString "both") = False := eq_false (by decide +kernel)
@[simp] theorem str_8_18 : (Str.ofString "pick" = Str.ofString "any") = False := eq_false (by decide +kernel)
@[simp] theorem str_8_19 : (Str.ofString "pick" = Str.ofString "keep") = False := eq_false (by decide +kernel)
@[simp] theorem str_8_20 : (Str.ofString "pick" = Str.ofString "rows") = False := eq_false (by decide +kernel)
@[simp] theorem str_8_21 : (Str.ofString "pick" = Str.ofString "unlike") = False := eq_false (by decide +kernel)
@[simp] theorem str_8_22 : (Str.ofString "pick" = Str.ofString "cap") = False := eq_false (by decide +kernel)
@[simp] theorem str_8_23 : (Str.ofString "pick" = Str.ofString "match") = False := eq_false (by decide +kernel)
@[simp] theorem str_8_24 : (Str.ofString "pick" = Str.ofString "") = False := eq_false (by decide +kernel)
@[simp] theorem str_8_25 : (Str.ofString "pick" = Str.ofString "aB") = False := eq_false (by decide +kernel)
@[simp] theorem str_8_26 : (Str.ofString "pick" = Str.ofString "pow") = False := eq_false (by decide +kernel)
@[simp] theorem str_8_27 : (Str.ofString "pick" = Str.ofString "All") = False := eq_false (by decide +kernel)
@[simp] theorem str_8_28 : (Str.ofString "pick" = Str.ofString "join") = False := eq_false (by decide +kernel)
@[simp] theorem str_8_29 : (Str.ofString "pick" = Str.ofString "count") = False := eq_false (by decide +kernel)
@[simp] theorem str_8_30 : (Str.ofString "pick" = Str.ofString "kinds") = False := eq_false (by decide +kernel)
@[simp] theorem str_8_31 : (Str.ofString "pick" = Str.ofString "sum") = False := eq_false (by decide +kernel)
@[simp] theorem str_8_32 : (Str.ofString "pick" = Str.ofString "mean") = False := eq_false (by decide +kernel)
@[simp] theorem str_9_0 : (Str.ofString "q" = Str.ofString "num") = False := eq_false (by decide +kernel)
@[simp] theorem str_9_1 : (Str.ofString "q" = Str.ofString "field") = False := eq_false (by decide +kernel)
@[simp] theorem str_9_2 : (Str.ofString "q" = Str.ofString "name") = False := eq_false (by decide +kernel)
@[simp] theorem str_9_3 : (Str.ofString "q" = Str.ofString "a") = False := eq_false (by decide +kernel)
@[simp] theorem str_9_4 : (Str.ofString "q" = Str.ofString "of") = False := eq_false (by decide +kernel)
@[simp] theorem str_9_5 : (Str.ofString "q" = Str.ofString "add") = False := eq_false (by decide +kernel)
@[simp] theorem str_9_6 : (Str.ofString "q" = Str.ofString "zzzzzzzz") = False := eq_false (by decide +kernel)
@[simp] theorem str_9_7 : (Str.ofString "q" = Str.ofString "all") = False := eq_false (by decide +kernel)
@[simp] theorem str_9_8 : (Str.ofString "q" = Str.ofString "pick") = False := eq_false (by decide +kernel)
@[simp] theorem str_9_10 : (Str.ofString "q" = Str.ofString "end") = False := eq_false (by decide +kernel)
@[simp] theorem str_9_11 : (Str.ofString "q" = Str.ofString "not") = False := eq_false (by decide +kernel)
@[simp] theorem str_9_12 : (Str.ofString "q" = Str.ofString "sub") = False := eq_false (by decide +kernel)
@[simp] theorem str_9_13 : (Str.ofString "q" = Str.ofString "mul") = False := eq_false (by decide +kernel)
@[simp] theorem str_9_14 : (Str.ofString "q" = Str.ofString "quo") = False := eq_false (by decide +kernel)
@[simp] theorem str_9_15 : (Str.ofString "q" = Str.ofString "less") = False := eq_false (by decide +kernel)
@[simp] theorem str_9_16 : (Str.ofString "q" = Str.ofString "same") = False := eq_false (by decide +kernel)
@[simp] theorem str_9_17 : (Str.ofString "q" = Str.ofString "both") = False := eq_false (by decide +kernel)
@[simp] theorem str_9_18 : (Str.ofString "q" = Str.ofString "any") = False := eq_false (by decide +kernel)
@[simp] theorem str_9_19 : (Str.ofString "q" = Str.ofString "keep") = False := eq_false (by decide +kernel)
@[simp] theorem str_9_20 : (Str.ofString "q" = Str.ofString "rows") = False := eq_false (by decide +kernel)
@[simp] theorem str_9_21 : (Str.ofString "q" = Str.ofString "unlike") = False := eq_false (by decide +kernel)
@[simp] theorem str_9_22 : (Str.ofString "q" = Str.ofString "cap") = False := eq_false (by decide +kernel)
@[simp] theorem str_9_23 : (Str.ofString "q" = Str.ofString "match") = False := eq_false (by decide +kernel)
@[simp] theorem str_9_24 : (Str.ofString "q" = Str.ofString "") = False := eq_false (by decide +kernel)
@[simp] theorem str_9_25 : (Str.ofString "q" = Str.ofString "aB") = False := eq_false (by decide +kernel)
@[simp] theorem str_9_26 : (Str.ofString "q" = Str.ofString "pow") = False := eq_false (by decide +kernel)
@[simp] theorem str_9_27 : (Str.ofString "q" = Str.ofString "All") = False := eq_false (by decide +kernel)
@[simp] theorem str_9_28 : (Str.ofString "q" = Str.ofString "join") = False := eq_false (by decide +kernel)
@[simp] theorem str_9_29 : (Str.ofString "q" = Str.ofString "count") = False := eq_false (by decide +kernel)
@[simp] theorem str_9_30 : (Str.ofString "q" = Str.ofString "kinds") = False := eq_false (by decide +kernel)
@[simp] theorem str_9_31 : (Str.ofString "q" = Str.ofString "sum") = False := eq_false (by decide +kernel)
@[simp] theorem str_9_32 : (Str.ofString "q" = Str.ofString "mean") = False := eq_false (by decide +kernel)
@[simp] theorem str_10_0 : (Str.ofString "end" = Str.ofString "num") = False := eq_false (by decide +kernel)
@[simp] theorem str_10_1 : (Str.ofString "end" = Str.ofString "field") = False := eq_false (by decide +kernel)
@[simp] theorem str_10_2 : (Str.ofString "end" = Str.ofString "name") = False := eq_false (by decide +kernel)
@[simp] theorem str_10_3 : (Str.ofString "end" = Str.ofString "a") = False := eq_false (by decide +kernel)
@[simp] theorem str_10_4 : (Str.ofString "end" = Str.ofString "of") = False := eq_false (by decide +kernel)
@[simp] theorem str_10_5 : (Str.ofString "end" = Str.ofString "add") = False := eq_false (by decide +kernel)
@[simp] theorem str_10_6 : (Str.ofString "end" = Str.ofString "zzzzzzzz") = False := eq_false (by decide +kernel)
@[simp] theorem str_10_7 : (Str.ofString "end" = Str.ofString "all") = False := eq_false (by decide +kernel)
@[simp] theorem str_10_8 : (Str.ofString "end" = Str.ofString "pick") = False := eq_false (by decide +kernel)
@[simp] theorem str_10_9 : (Str.ofString "end" = Str.ofString "q") = False := eq_false (by decide +kernel)
@[simp] theorem str_10_11 : (Str.ofString "end" = Str.ofString "not") = False := eq_false (by decide +kernel)
@[simp] theorem str_10_12 : (Str.ofString "end" = Str.ofString "sub") = False := eq_false (by decide +kernel)
@[simp] theorem str_10_13 : (Str.ofString "end" = Str.ofString "mul") = False := eq_false (by decide +kernel)
@[simp] theorem str_10_14 : (Str.ofString "end" = Str.ofString "quo") = False := eq_false (by decide +kernel)
@[simp] theorem str_10_15 : (Str.ofString "end" = Str.ofString "less") = False := eq_false (by decide +kernel)
@[simp] theorem str_10_16 : (Str.ofString "end" = Str.ofString "same") = False := eq_false (by decide +kernel)
@[simp] theorem str_10_17 : (Str.ofString "end" = Str.ofString "both") = False := eq_false (by decide +kernel)
@[simp] theorem str_10_18 : (Str.ofString "end" = Str.ofString "any") = False := eq_false (by decide +kernel)
@[simp] theorem str_10_19 : (Str.ofString "end" = Str.ofString "keep") = False := eq_false (by decide +kernel)
@[simp] theorem str_10_20 : (Str.ofString "end" = Str.ofString "rows") = False := eq_false (by decide +kernel)
@[simp] theorem str_10_21 : (Str.ofString "end" = Str.ofString "unlike") = False := eq_false (by decide +kernel)
@[simp] theorem str_10_22 : (Str.ofString "end" = Str.ofString "cap") = False := eq_false (by decide +kernel)
@[simp] theorem str_10_23 : (Str.ofString "end" = Str.ofString "match") = False := eq_false (by decide +kernel)
@[simp] theorem str_10_24 : (Str.ofString "end" = Str.ofString "") = False := eq_false (by decide +kernel)
@[simp] theorem str_10_25 : (Str.ofString "end" = Str.ofString "aB") = False := eq_false (by decide +kernel)
@[simp] theorem str_10_26 : (Str.ofString "end" = Str.ofString "pow") = False := eq_false (by decide +kernel)
@[simp] theorem str_10_27 : (Str.ofString "end" = Str.ofString "All") = False := eq_false (by decide +kernel)
@[simp] theorem str_10_28 : (Str.ofString "end" = Str.ofString "join") = False := eq_false (by decide +kernel)
@[simp] theorem str_10_29 : (Str.ofString "end" = Str.ofString "count") = False := eq_false (by decide +kernel)
@[simp] theorem str_10_30 : (Str.ofString "end" = Str.ofString "kinds") = False := eq_false (by decide +kernel)
@[simp] theorem str_10_31 : (Str.ofString "end" = Str.ofString "sum") = False := eq_false (by decide +kernel)
@[simp] theorem str_10_32 : (Str.ofString "end" = Str.ofString "mean") = False := eq_false (by decide +kernel)
@[simp] theorem str_11_0 : (Str.ofString "not" = Str.ofString "num") = False := eq_false (by decide +kernel)
@[simp] theorem str_11_1 : (Str.ofString "not" = Str.ofString "field") = False := eq_false (by decide +kernel)
@[simp] theorem str_11_2 : (Str.ofString "not" = Str.ofString "name") = False := eq_false (by decide +kernel)
@[simp] theorem str_11_3 : (Str.ofString "not" = Str.ofString "a") = False := eq_false (by decide +kernel)
@[simp] theorem str_11_4 : (Str.ofString "not" = Str.ofString "of") = False := eq_false (by decide +kernel)
@[simp] theorem str_11_5 : (Str.ofString "not" = Str.ofString "add") = False := eq_false (by decide +kernel)
@[simp] theorem str_11_6 : (Str.ofString "not" = Str.ofString "zzzzzzzz") = False := eq_false (by decide +kernel)
@[simp] theorem str_11_7 : (Str.ofString "not" = Str.ofString "all") = False := eq_false (by decide +kernel)
@[simp] theorem str_11_8 : (Str.ofString "not" = Str.ofString "pick") = False := eq_false (by decide +kernel)
@[simp] theorem str_11_9 : (Str.ofString "not" = Str.ofString "q") = False := eq_false (by decide +kernel)
@[simp] theorem str_11_10 : (Str.ofString "not" = Str.ofString "end") = False := eq_false (by decide +kernel)
@[simp] theorem str_11_12 : (Str.ofString "not" = Str.ofString "sub") = False := eq_false (by decide +kernel)
@[simp] theorem str_11_13 : (Str.ofString "not" = Str.ofString "mul") = False := eq_false (by decide +kernel)
@[simp] theorem str_11_14 : (Str.ofString "not" = Str.ofString "quo") = False := eq_false (by decide +kernel)
@[simp] theorem str_11_15 : (Str.ofString "not" = Str.ofString "less") = False := eq_false (by decide +kernel)
@[simp] theorem str_11_16 : (Str.ofString "not" = Str.ofString "same") = False := eq_false (by decide +kernel)
@[simp] theorem str_11_17 : (Str.ofString "not" = Str.ofString "both") = False := eq_false (by decide +kernel)
@[simp] theorem str_11_18 : (Str.ofString "not" = Str.ofString "any") = False := eq_false (by decide +kernel)
@[simp] theorem str_11_19 : (Str.ofString "not" = Str.ofString "keep") = False := eq_false (by decide +kernel)
@[simp] theorem str_11_20 : (Str.ofString "not" = Str.ofString "rows") = False := eq_false (by decide +kernel)
@[simp] theorem str_11_21 : (Str.ofString "not" = Str.ofString "unlike") = False := eq_false (by decide +kernel)
@[simp] theorem str_11_22 : (Str.ofString "not" = Str.ofString "cap") = False := eq_false (by decide +kernel)
@[simp] theorem str_11_23 : (Str.ofString "not" = Str.ofString "match") = False := eq_false (by decide +kernel)
@[simp] theorem str_11_24 : (Str.ofString "not" = Str.ofString "") = False := eq_false (by decide +kernel)
@[simp] theorem str_11_25 : (Str.ofString "not" = Str.ofString "aB") = False := eq_false (by decide +kernel)
@[simp] theorem str_11_26 : (Str.ofString "not" = Str.ofString "pow") = False := eq_false (by decide +kernel)
@[simp] theorem str_11_27 : (Str.ofString "not" = Str.ofString "All") = False := eq_false (by decide +kernel)
@[simp] theorem str_11_28 : (Str.ofString "not" = Str.ofString "join") = False := eq_false (by decide +kernel)
@[simp] theorem str_11_29 : (Str.ofString "not" = Str.ofString "count") = False := eq_false (by decide +kernel)
@[simp] theorem str_11_30 : (Str.ofString "not" = Str.ofString "kinds") = False := eq_false (by decide +kernel)
@[simp] theorem str_11_31 : (Str.ofString "not" = Str.ofString "sum") = False := eq_false (by decide +kernel)
@[simp] theorem str_11_32 : (Str.ofString "not" = Str.ofString "mean") = False := eq_false (by decide +kernel)
@[simp] theorem str_12_0 : (Str.ofString "sub" = Str.ofString "num") = False := eq_false (by decide +kernel)
@[simp] theorem str_12_1 : (Str.ofString "sub" = Str.ofString "field") = False := eq_false (by decide +kernel)
@[simp] theorem str_12_2 : (Str.ofString "sub" = Str.ofString "name") = False := eq_false (by decide +kernel)
@[simp] theorem str_12_3 : (Str.ofString "sub" = Str.ofString "a") = False := eq_false (by decide +kernel)
@[simp] theorem str_12_4 : (Str.ofString "sub" = Str.ofString "of") = False := eq_false (by decide +kernel)
@[simp] theorem str_12_5 : (Str.ofString "sub" = Str.ofString "add") = False := eq_false (by decide +kernel)
@[simp] theorem str_12_6 : (Str.ofString "sub" = Str.ofString "zzzzzzzz") = False := eq_false (by decide +kernel)
@[simp] theorem str_12_7 : (Str.ofString "sub" = Str.ofString "all") = False := eq_false (by decide +kernel)
@[simp] theorem str_12_8 : (Str.ofString "sub" = Str.ofString "pick") = False := eq_false (by decide +kernel)
@[simp] theorem str_12_9 : (Str.ofString "sub" = Str.ofString "q") = False := eq_false (by decide +kernel)
@[simp] theorem str_12_10 : (Str.ofString "sub" = Str.ofString "end") = False := eq_false (by decide +kernel)
@[simp] theorem str_12_11 : (Str.ofString "sub" = Str.ofString "not") = False := eq_false (by decide +kernel)
@[simp] theorem str_12_13 : (Str.ofString "sub" = Str.ofString "mul") = False := eq_false (by decide +kernel)
@[simp] theorem str_12_14 : (Str.ofString "sub" = Str.ofString "quo") = False := eq_false (by decide +kernel)
@[simp] theorem str_12_15 : (Str.ofString "sub" = Str.ofString "less") = False := eq_false (by decide +kernel)
@[simp] theorem str_12_16 : (Str.ofString "sub" = Str.ofString "same") = False := eq_false (by decide +kernel)
@[simp] theorem str_12_17 : (Str.ofString "sub" = Str.ofString "both") = False := eq_false (by decide +kernel)
@[simp] theorem str_12_18 : (Str.ofString "sub" = Str.ofString "any") = False := eq_false (by decide +kernel)
@[simp] theorem str_12_19 : (Str.ofString "sub" = Str.ofString "keep") = False := eq_false (by decide +kernel)
@[simp] theorem str_12_20 : (Str.ofString "sub" = Str.ofString "rows") = False := eq_false (by decide +kernel)
@[simp] theorem str_12_21 : (Str.ofString "sub" = Str.ofString "unlike") = False := eq_false (by decide +kernel)
@[simp] theorem str_12_22 : (Str.ofString "sub" = Str.ofString "cap") = False := eq_false (by decide +kernel)
@[simp] theorem str_12_23 : (Str.ofString "sub" = Str.ofString "match") = False := eq_false (by decide +kernel)
@[simp] theorem str_12_24 : (Str.ofString "sub" = Str.ofString "") = False := eq_false (by decide +kernel)
@[simp] theorem str_12_25 : (Str.ofString "sub" = Str.ofString "aB") = False := eq_false (by decide +kernel)
@[simp] theorem str_12_26 : (Str.ofString "sub" = Str.ofString "pow") = False := eq_false (by decide +kernel)
@[simp] theorem str_12_27 : (Str.ofString "sub" = Str.ofString "All") = False := eq_false (by decide +kernel)
@[simp] theorem str_12_28 : (Str.ofString "sub" = Str.ofString "join") = False := eq_false (by decide +kernel)
@[simp] theorem str_12_29 : (Str.ofString "sub" = Str.ofString "count") = False := eq_false (by decide +kernel)
@[simp] theorem str_12_30 : (Str.ofString "sub" = Str.ofString "kinds") = False := eq_false (by decide +kernel)
@[simp] theorem str_12_31 : (Str.ofString "sub" = Str.ofString "sum") = False := eq_false (by decide +kernel)
@[simp] theorem str_12_32 : (Str.ofString "sub" = Str.ofString "mean") = False := eq_false (by decide +kernel)
@[simp] theorem str_13_0 : (Str.ofString "mul" = Str.ofString "num") = False := eq_false (by decide +kernel)
@[simp] theorem str_13_1 : (Str.ofString "mul" = Str.ofString "field") = False := eq_false (by decide +kernel)
@[simp] theorem str_13_2 : (Str.ofString "mul" = Str.ofString "name") = False := eq_false (by decide +kernel)
@[simp] theorem str_13_3 : (Str.ofString "mul" = Str.ofString "a") = False := eq_false (by decide +kernel)
@[simp] theorem str_13_4 : (Str.ofString "mul" = Str.ofString "of") = False := eq_false (by decide +kernel)
@[simp] theorem str_13_5 : (Str.ofString "mul" = Str.ofString "add") = False := eq_false (by decide +kernel)
@[simp] theorem str_13_6 : (Str.ofString "mul" = Str.ofString "zzzzzzzz") = False := eq_false (by decide +kernel)
@[simp] theorem str_13_7 : (Str.ofString "mul" = Str.ofString "all") = False := eq_false (by decide +kernel)
@[simp] theorem str_13_8 : (Str.ofString "mul" = Str.ofString "pick") = False := eq_false (by decide +kernel)
@[simp] theorem str_13_9 : (Str.ofString "mul" = Str.ofString "q") = False := eq_false (by decide +kernel)
@[simp] theorem str_13_10 : (Str.ofString "mul" = Str.ofString "end") = False := eq_false (by decide +kernel)
@[simp] theorem str_13_11 : (Str.ofString "mul" = Str.ofString "not") = False := eq_false (by decide +kernel)
@[simp] theorem str_13_12 : (Str.ofString "mul" = Str.ofString "sub") = False := eq_false (by decide +kernel)
@[simp] theorem str_13_14 : (Str.ofString "mul" = Str.ofString "quo") = False := eq_false (by decide +kernel)
@[simp] theorem str_13_15 : (Str.ofString "mul" = Str.ofString "less") = False := eq_false (by decide +kernel)
@[simp] theorem str_13_16 : (Str.ofString "mul" = Str.ofString "same") = False := eq_false (by decide +kernel)
@[simp] theorem str_13_17 : (Str.ofString "mul" = Str.ofString "both") = False := eq_false (by decide +kernel)
@[simp] theorem str_13_18 : (Str.ofString "mul" = Str.ofString "any") = False := eq_false (by decide +kernel)
@[simp] theorem str_13_19 : (Str.ofString "mul" = Str.ofString "keep") = False := eq_false (by decide +kernel)
@[simp] theorem str_13_20 : (Str.ofString "mul" = Str.ofString "rows") = False := eq_false (by decide +kernel)
@[simp] theorem str_13_21 : (Str.ofString "mul" = Str.ofString "unlike") = False := eq_false (by decide +kernel)
@[simp] theorem str_13_22 : (Str.ofString "mul" = Str.ofString "cap") = False := eq_false (by decide +kernel)
@[simp] theorem str_13_23 : (Str.ofString "mul" = Str.ofString "match") = False := eq_false (by decide +kernel)
@[simp] theorem str_13_24 : (Str.ofString "mul" = Str.ofString "") = False := eq_false (by decide +kernel)
@[simp] theorem str_13_25 : (Str.ofString "mul" = Str.ofString "aB") = False := eq_false (by decide +kernel)
@[simp] theorem str_13_26 : (Str.ofString "mul" = Str.ofString "pow") = False := eq_false (by decide +kernel)
@[simp] theorem str_13_27 : (Str.ofString "mul" = Str.ofString "All") = False := eq_false (by decide +kernel)
@[simp] theorem str_13_28 : (Str.ofString "mul" = Str.ofString "join") = False := eq_false (by decide +kernel)
@[simp] theorem str_13_29 : (Str.ofString "mul" = Str.ofString "count") = False := eq_false (by decide +kernel)
@[simp] theorem str_13_30 : (Str.ofString "mul" = Str.ofString "kinds") = False := eq_false (by decide +kernel)
@[simp] theorem str_13_31 : (Str.ofString "mul" = Str.ofString "sum") = False := eq_false (by decide +kernel)
@[simp] theorem str_13_32 : (Str.ofString "mul" = Str.ofString "mean") = False := eq_false (by decide +kernel)
@[simp] theorem str_14_0 : (Str.ofString "quo" = Str.ofString "num") = False := eq_false (by decide +kernel)
@[simp] theorem str_14_1 : (Str.ofString "quo" = Str.ofString "field") = False := eq_false (by decide +kernel)
@[simp] theorem str_14_2 : (Str.ofString "quo" = Str.ofString "name") = False := eq_false (by decide +kernel)
@[simp] theorem str_14_3 : (Str.ofString "quo" = Str.ofString "a") = False := eq_false (by decide +kernel)
@[simp] theorem str_14_4 : (Str.ofString "quo" = Str.ofString "of") = False := eq_false (by decide +kernel)
@[simp] theorem str_14_5 : (Str.ofString "quo" = Str.ofString "add") = False := eq_false (by decide +kernel)
@[simp] theorem str_14_6 : (Str.ofString "quo" = Str.ofString "zzzzzzzz") = False := eq_false (by decide +kernel)
@[simp] theorem str_14_7 : (Str.ofString "quo" = Str.ofString "all") = False := eq_false (by decide +kernel)
@[simp] theorem str_14_8 : (Str.ofString "quo" = Str.ofString "pick") = False := eq_false (by decide +kernel)
@[simp] theorem str_14_9 : (Str.ofString "quo" = Str.ofString "q") = False := eq_false (by decide +kernel)
@[simp] theorem str_14_10 : (Str.ofString "quo" = Str.ofString "end") = False := eq_false (by decide +kernel)
@[simp] theorem str_14_11 : (Str.ofString "quo" = Str.ofString "not") = False := eq_false (by decide +kernel)
@[simp] theorem str_14_12 : (Str.ofString "quo" = Str.ofString "sub") = False := eq_false (by decide +kernel)
@[simp] theorem str_14_13 : (Str.ofString "quo" = Str.ofString "mul") = False := eq_false (by decide +kernel)
@[simp] theorem str_14_15 : (Str.ofString "quo" = Str.ofString "less") = False := eq_false (by decide +kernel)
@[simp] theorem str_14_16 : (Str.ofString "quo" = Str.ofString "same") = False := eq_false (by decide +kernel)
@[simp] theorem str_14_17 : (Str.ofString "quo" = Str.ofString "both") = False := eq_false (by decide +kernel)
@[simp] theorem str_14_18 : (Str.ofString "quo" = Str.ofString "any") = False := eq_false (by decide +kernel)
@[simp] theorem str_14_19 : (Str.ofString "quo" = Str.ofString "keep") = False := eq_false (by decide +kernel)
@[simp] theorem str_14_20 : (Str.ofString "quo" = Str.ofString "rows") = False := eq_false (by decide +kernel)
@[simp] theorem str_14_21 : (Str.ofString "quo" = Str.ofString "unlike") = False := eq_false (by decide +kernel)
@[simp] theorem str_14_22 : (Str.ofString "quo" = Str.ofString "cap") = False := eq_false (by decide +kernel)
@[simp] theorem str_14_23 : (Str.ofString "quo" = Str.ofString "match") = False := eq_false (by decide +kernel)
@[simp] theorem str_14_24 : (Str.ofString "quo" = Str.ofString "") = False := eq_false (by decide +kernel)
@[simp] theorem str_14_25 : (Str.ofString "quo" = Str.ofString "aB") = False := eq_false (by decide +kernel)
@[simp] theorem str_14_26 : (Str.ofString "quo" = Str.ofString "pow") = False := eq_false (by decide +kernel)
@[simp] theorem str_14_27 : (Str.ofString "quo" = Str.ofString "All") = False := eq_false (by decide +kernel)
@[simp] theorem str_14_28 : (Str.ofString "quo" = Str.ofString "join") = False := eq_false (by decide +kernel)
@[simp] theorem str_14_29 : (Str.ofString "quo" = Str.ofString "count") = False := eq_false (by decide +kernel)
@[simp] theorem str_14_30 : (Str.ofString "quo" = Str.ofString "kinds") = False := eq_false (by decide +kernel)
@[simp] theorem str_14_31 : (Str.ofString "quo" = Str.ofString "sum") = False := eq_false (by decide +kernel)
@[simp] theorem str_14_32 : (Str.ofString "quo" = Str.ofString "mean") = False := eq_false (by decide +kernel)
@[simp] theorem str_15_0 : (Str.ofString "less" = Str.ofString "num") = False := eq_false (by decide +kernel)
@[simp] theorem str_15_1 : (Str.ofString "less" = Str.ofString "field") = False := eq_false (by decide +kernel)
@[simp] theorem str_15_2 : (Str.ofString "less" = Str.ofString "name") = False := eq_false (by decide +kernel)
@[simp] theorem str_15_3 : (Str.ofString "less" = Str.ofString "a") = False := eq_false (by decide +kernel)
@[simp] theorem str_15_4 : (Str.ofString "less" = Str.ofString "of") = False := eq_false (by decide +kernel)
@[simp] theorem str_15_5 : (Str.ofString "less" = Str.ofString "add") = False := eq_false (by decide +kernel)
@[simp] theorem str_15_6 : (Str.ofString "less" = Str.ofString "zzzzzzzz") = False := eq_false (by decide +kernel)
@[simp] theorem str_15_7 : (Str.ofString "less" = Str.ofString "all") = False := eq_false (by decide +kernel)
@[simp] theorem str_15_8 : (Str.ofString "less" = Str.ofString "pick") = False := eq_false (by decide +kernel)
@[simp] theorem str_15_9 : (Str.ofString "less" = Str.ofString "q") = False := eq_false (by decide +kernel)
@[simp] theorem str_15_10 : (Str.ofString "less" = Str.ofString "end") = False := eq_false (by decide +kernel)
@[simp] theorem str_15_11 : (Str.ofString "less" = Str.ofString "not") = False := eq_false (by decide +kernel)
@[simp] theorem str_15_12 : (Str.ofString "less" = Str.ofString "sub") = False := eq_false (by decide +kernel)
@[simp] theorem str_15_13 : (Str.ofString "less" = Str.ofString "mul") = False := eq_false (by decide +kernel)
@[simp] theorem str_15_14 : (Str.ofString "less" = Str.ofString "quo") = False := eq_false (by decide +kernel)
@[simp] theorem str_15_16 : (Str.ofString "less" = Str.ofString "same") = False := eq_false (by decide +kernel)
@[simp] theorem str_15_17 : (Str.ofString "less" = Str.ofString "both") = False := eq_false (by decide +kernel)
@[simp] theorem str_15_18 : (Str.ofString "less" = Str.ofString "any") = False := eq_false (by decide +kernel)
@[simp] theorem str_15_19 : (Str.ofString "less" = Str.ofString "keep") = False := eq_false (by decide +kernel)
@[simp] theorem str_15_20 : (Str.ofString "less" = Str.ofString "rows") = False := eq_false (by decide +kernel)
@[simp] theorem str_15_21 : (Str.ofString "less" = Str.ofString "unlike") = False := eq_false (by decide +kernel)
@[simp] theorem str_15_22 : (Str.ofString "less" = Str.ofString "cap") = False := eq_false (by decide +kernel)
@[simp] theorem str_15_23 : (Str.ofString "less" = Str.ofString "match") = False := eq_false (by decide +kernel)
@[simp] theorem str_15_24 : (Str.ofString "less" = Str.ofString "") = False := eq_false (by decide +kernel)
@[simp] theorem str_15_25 : (Str.ofString "less" = Str.ofString "aB") = False := eq_false (by decide +kernel)
@[simp] theorem str_15_26 : (Str.ofString "less" = Str.ofString "pow") = False := eq_false (by decide +kernel)
@[simp] theorem str_15_27 : (Str.ofString "less" = Str.ofString "All") = False := eq_false (by decide +kernel)
@[simp] theorem str_15_28 : (Str.ofString "less" = Str.ofString "join") = False := eq_false (by decide +kernel)
@[simp] theorem str_15_29 : (Str.ofString "less" = Str.ofString "count") = False := eq_false (by decide +kernel)
@[simp] theorem str_15_30 : (Str.ofString "less" = Str.ofString "kinds") = False := eq_false (by decide +kernel)
@[simp] theorem str_15_31 : (Str.ofString "less" = Str.ofString "sum") = False := eq_false (by decide +kernel)
@[simp] theorem str_15_32 : (Str.ofString "less" = Str.ofString "mean") = False := eq_false (by decide +kernel)
@[simp] theorem str_16_0 : (Str.ofString "same" = Str.ofString "num") = False := eq_false (by decide +kernel)
@[simp] theorem str_16_1 : (Str.ofString "same" = Str.ofString "field") = False := eq_false (by decide +kernel)
@[simp] theorem str_16_2 : (Str.ofString "same" = Str.ofString "name") = False := eq_false (by decide +kernel)
@[simp] theorem str_16_3 : (Str.ofString "same" = Str.ofString "a") = False := eq_false (by decide +kernel)
@[simp] theorem str_16_4 : (Str.ofString "same" = Str.ofString "of") = False := eq_false (by decide +kernel)
@[simp] theorem str_16_5 : (Str.ofString "same" = Str.ofString "add") = False := eq_false (by decide +kernel)
@[simp] theorem str_16_6 : (Str.ofString "same" = Str.ofString "zzzzzzzz") = False := eq_false (by decide +kernel)
@[simp] theorem str_16_7 : (Str.ofString "same" = Str.ofString "all") = False := eq_false (by decide +kernel)
@[simp] theorem str_16_8 : (Str.ofString "same" = Str.ofString "pick") = False := eq_false (by decide +kernel)
@[simp] theorem str_16_9 : (Str.ofString "same" = Str.ofString "q") = False := eq_false (by decide +kernel)
@[simp] theorem str_16_10 : (Str.ofString "same" = Str.ofString "end") = False := eq_false (by decide +kernel)
@[simp] theorem str_16_11 : (Str.ofString "same" = Str.ofString "not") = False := eq_false (by decide +kernel)
@[simp] theorem str_16_12 : (Str.ofString "same" = Str.ofString "sub") = False := eq_false (by decide +kernel)
@[simp] theorem str_16_13 : (Str.ofString "same" = Str.ofString "mul") = False := eq_false (by decide +kernel)
@[simp] theorem str_16_14 : (Str.ofString "same" = Str.ofString "quo") = False := eq_false (by decide +kernel)
@[simp] theorem str_16_15 : (Str.ofString "same" = Str.ofString "less") = False := eq_false (by decide +kernel)
@[simp] theorem str_16_17 : (Str.ofString "same" = Str.ofString "both") = False := eq_false (by decide +kernel)
@[simp] theorem str_16_18 : (Str.ofString "same" = Str.ofString "any") = False := eq_false (by decide +kernel)
@[simp] theorem str_16_19 : (Str.ofString "same" = Str.ofString "keep") = False := eq_false (by decide +kernel)
@[simp] theorem str_16_20 : (Str.ofString "same" = Str.ofString "rows") = False := eq_false (by decide +kernel)
@[simp] theorem str_16_21 : (Str.ofString "same" = Str.ofString "unlike") = False := eq_false (by decide +kernel)
@[simp] theorem str_16_22 : (Str.ofString "same" = Str.ofString "cap") = False := eq_false (by decide +kernel)
@[simp] theorem str_16_23 : (Str.ofString "same" = Str.ofString "match") = False := eq_false (by decide +kernel)
@[simp] theorem str_16_24 : (Str.ofString "same" = Str.ofString "") = False := eq_false (by decide +kernel)
@[simp] theorem str_16_25 : (Str.ofString "same" = Str.ofString "aB") = False := eq_false (by decide +kernel)
@[simp] theorem str_16_26 : (Str.ofString "same" = Str.ofString "pow") = False := eq_false (by decide +kernel)
@[simp] theorem str_16_27 : (Str.ofString "same" = Str.ofString "All") = False := eq_false (by decide +kernel)
@[simp] theorem str_16_28 : (Str.ofString "same" = Str.ofString "join") = False := eq_false (by decide +kernel)
@[simp] theorem str_16_29 : (Str.ofString "same" = Str.ofString "count") = False := eq_false (by decide +kernel)
@[simp] theorem str_16_30 : (Str.ofString "same" = Str.ofString "kinds") = False := eq_false (by decide +kernel)
@[simp] theorem str_16_31 : (Str.ofString "same" = Str.ofString "sum") = False := eq_false (by decide +kernel)
@[simp] theorem str_16_32 : (Str.ofString "same" = Str.ofString "mean") = False := eq_false (by decide +kernel)
@[simp] theorem str_17_0 : (Str.ofString "both" = Str.ofString "num") = False := eq_false (by decide +kernel)
@[simp] theorem str_17_1 : (Str.ofString "both" = Str.ofString "field") = False := eq_false (by decide +kernel)
@[simp] theorem str_17_2 : (Str.ofString "both" = Str.ofString "name") = False := eq_false (by decide +kernel)
@[simp] theorem str_17_3 : (Str.ofString "both" = Str.ofString "a") = False := eq_false (by decide +kernel)
@[simp] theorem str_17_4 : (Str.ofString "both" = Str.ofString "of") = False := eq_false (by decide +kernel)
@[simp] theorem str_17_5 : (Str.ofString "both" = Str.ofString "add") = False := eq_false (by decide +kernel)
@[simp] theorem str_17_6 : (Str.ofString "both" = Str.ofString "zzzzzzzz") = False := eq_false (by decide +kernel)
@[simp] theorem str_17_7 : (Str.ofString "both" = Str.ofString "all") = False := eq_false (by decide +kernel)
@[simp] theorem str_17_8 : (Str.ofString "both" = Str.ofString "pick") = False := eq_false (by decide +kernel)
@[simp] theorem str_17_9 : (Str.ofString "both" = Str.ofString "q") = False := eq_false (by decide +kernel)
@[simp] theorem str_17_10 : (Str.ofString "both" = Str.ofString "end") = False := eq_false (by decide +kernel)
@[simp] theorem str_17_11 : (Str.ofString "both" = Str.ofString "not") = False := eq_false (by decide +kernel)
@[simp] theorem str_17_12 : (Str.ofString "both" = Str.ofString "sub") = False := eq_false (by decide +kernel)
@[simp] theorem str_17_13 : (Str.ofString "both" = Str.ofString "mul") = False := eq_false (by decide +kernel)
@[simp] theorem str_17_14 : (Str.ofString "both" = Str.ofString "quo") = False := eq_false (by decide +kernel)
@[simp] theorem str_17_15 : (Str.ofString "both" = Str.ofString "less") = False := eq_false (by decide +kernel)
@[simp] theorem str_17_16 : (Str.ofString "both" = Str.ofString "same") = False := eq_false (by decide +kernel)
@[simp] theorem str_17_18 : (Str.ofString "both" = Str.ofString "any") = False := eq_false (by decide +kernel)
@[simp] theorem str_17_19 : (Str.ofString "both" = Str.ofString "keep") = False := eq_false (by decide +kernel)
@[simp] theorem str_17_20 : (Str.ofString "both" = Str.ofString "rows") = False := eq_false (by decide +kernel)
@[simp] theorem str_17_21 : (Str.ofString "both" = Str.ofString "unlike") = False := eq_false (by decide +kernel)
@[simp] theorem str_17_22 : (Str.ofString "both" = Str.ofString "cap") = False := eq_false (by decide +kernel)
@[simp] theorem str_17_23 : (Str.ofString "both" = Str.ofString "match") = False := eq_false (by decide +kernel)
@[simp] theorem str_17_24 : (Str.ofString "both" = Str.ofString "") = False := eq_false (by decide +kernel)
@[simp] theorem str_17_25 : (Str.ofString "both" = Str.ofString "aB") = False := eq_false (by decide +kernel)
@[simp] theorem str_17_26 : (Str.ofString "both" = Str.ofString "pow") = False := eq_false (by decide +kernel)
@[simp] theorem str_17_27 : (Str.ofString "both" = Str.ofString "All") = False := eq_false (by decide +kernel)
@[simp] theorem str_17_28 : (Str.ofString "both" = Str.ofString "join") = False := eq_false (by decide +kernel)
@[simp] theorem str_17_29 : (Str.ofString "both" = Str.ofString "count") = False := eq_false (by decide +kernel)
@[simp] theorem str_17_30 : (Str.ofString "both" = Str.ofString "kinds") = False := eq_false (by decide +kernel)
@[simp] theorem str_17_31 : (Str.ofString "both" = Str.ofString "sum") = False := eq_false (by decide +kernel)
@[simp] theorem str_17_32 : (Str.ofString "both" = Str.ofString "mean") = False := eq_false (by decide +kernel)
@[simp] theorem str_18_0 : (Str.ofString "any" = Str.ofString "num") = False := eq_false (by decide +kernel)
@[simp] theorem str_18_1 : (Str.ofString "any" = Str.ofString "field") = False := eq_false (by decide +kernel)
@[simp] theorem str_18_2 : (Str.ofString "any" = Str.ofString "name") = False := eq_false (by decide +kernel)
@[simp] theorem str_18_3 : (Str.ofString "any" = Str.ofString "a") = False := eq_false (by decide +kernel)
@[simp] theorem str_18_4 : (Str.ofString "any" = Str.ofString "of") = False := eq_false (by decide +kernel)
@[simp] theorem str_18_5 : (Str.ofString "any" = Str.ofString "add") = False := eq_false (by decide +kernel)
@[simp] theorem str_18_6 : (Str.ofString "any" = Str.ofString "zzzzzzzz") = False := eq_false (by decide +kernel)
@[simp] theorem str_18_7 : (Str.ofString "any" = Str.ofString "all") = False := eq_false (by decide +kernel)
@[simp] theorem str_18_8 : (Str.ofString "any" = Str.ofString "pick") = False := eq_false (by decide +kernel)
@[simp] theorem str_18_9 : (Str.ofString "any" = Str.ofString "q") = False := eq_false (by decide +kernel)
@[simp] theorem str_18_10 : (Str.ofString "any" = Str.ofString "end") = False := eq_false (by decide +kernel)
@[simp] theorem str_18_11 : (Str.ofString "any" = Str.ofString "not") = False := eq_false (by decide +kernel)
@[simp] theorem str_18_12 : (Str.ofString "any" = Str.ofString "sub") = False := eq_false (by decide +kernel)
@[simp] theorem str_18_13 : (Str.ofString "any" = Str.ofString "mul") = False := eq_false (by decide +kernel)
@[simp] theorem str_18_14 : (Str.ofString "any" = Str.ofString "quo") = False := eq_false (by decide +kernel)
@[simp] theorem str_18_15 : (Str.ofString "any" = Str.ofString "less") = False := eq_false (by decide +kernel)
@[simp] theorem str_18_16 : (Str.ofString "any" = Str.ofString "same") = False := eq_false (by decide +kernel)
@[simp] theorem str_18_17 : (Str.ofString "any" = Str.ofString "both") = False := eq_false (by decide +kernel)
@[simp] theorem str_18_19 : (Str.ofString "any" = Str.ofString "keep") = False := eq_false (by decide +kernel)
@[simp] theorem str_18_20 : (Str.ofString "any" = Str.ofString "rows") = False := eq_false (by decide +kernel)
@[simp] theorem str_18_21 : (Str.ofString "any" = Str.ofString "unlike") = False := eq_false (by decide +kernel)
@[simp] theorem str_18_22 : (Str.ofString "any" = Str.ofString "cap") = False := eq_false (by decide +kernel)
@[simp] theorem str_18_23 : (Str.ofString "any" = Str.ofString "match") = False := eq_false (by decide +kernel)
@[simp] theorem str_18_24 : (Str.ofString "any" = Str.ofString "") = False := eq_false (by decide +kernel)
@[simp] theorem str_18_25 : (Str.ofString "any" = Str.ofString "aB") = False := eq_false (by decide +kernel)
@[simp] theorem str_18_26 : (Str.ofString "any" = Str.ofString "pow") = False := eq_false (by decide +kernel)
@[simp] theorem str_18_27 : (Str.ofString "any" = Str.ofString "All") = False := eq_false (by decide +kernel)
@[simp] theorem str_18_28 : (Str.ofString "any" = Str.ofString "join") = False := eq_false (by decide +kernel)
@[simp] theorem str_18_29 : (Str.ofString "any" = Str.ofString "count") = False := eq_false (by decide +kernel)
@[simp] theorem str_18_30 : (Str.ofString "any" = Str.ofString "kinds") = False := eq_false (by decide +kernel)
@[simp] theorem str_18_31 : (Str.ofString "any" = Str.ofString "sum") = False := eq_false (by decide +kernel)
@[simp] theorem str_18_32 : (Str.ofString "any" = Str.ofString "mean") = False := eq_false (by decide +kernel)
@[simp] theorem str_19_0 : (Str.ofString "keep" = Str.ofString "num") = False := eq_false (by decide +kernel)
@[simp] theorem str_19_1 : (Str.ofString "keep" = Str.ofString "field") = False := eq_false (by decide +kernel)
@[simp] theorem str_19_2 : (Str.ofString "keep" = Str.ofString "name") = False := eq_false (by decide +kernel)
@[simp] theorem str_19_3 : (Str.ofString "keep" = Str.ofString "a") = False := eq_false (by decide +kernel)
@[simp] theorem str_19_4 : (Str.ofString "keep" = Str.ofString "of") = False := eq_false (by decide +kernel)
@[simp] theorem str_19_5 : (Str.ofString "keep" = Str.ofString "add") = False := eq_false (by decide +kernel)
@[simp] theorem str_19_6 : (Str.ofString "keep" = Str.ofString "zzzzzzzz") = False := eq_false (by decide +kernel)
@[simp] theorem str_19_7 : (Str.ofString "keep" = Str.ofString "all") = False := eq_false (by decide +kernel)
@[simp] theorem str_19_8 : (Str.ofString "keep" = Str.ofString "pick") = False := eq_false (by decide +kernel)
@[simp] theorem str_19_9 : (Str.ofString "keep" = Str.ofString "q") = False := eq_false (by decide +kernel)
@[simp] theorem str_19_10 : (Str.ofString "keep" = Str.ofString "end") = False := eq_false (by decide +kernel)
@[simp] theorem str_19_11 : (Str.ofString "keep" = Str.ofString "not") = False := eq_false (by decide +kernel)
@[simp] theorem str_19_12 : (Str.ofString "keep" = Str.ofString "sub") = False := eq_false (by decide +kernel)
@[simp] theorem str_19_13 : (Str.ofString "keep" = Str.ofString "mul") = False := eq_false (by decide +kernel)
@[simp] theorem str_19_14 : (Str.ofString "keep" = Str.ofString "quo") = False := eq_false (by decide +kernel)
@[simp] theorem str_19_15 : (Str.ofString "keep" = Str.ofString "less") = False := eq_false (by decide +kernel)
@[simp] theorem str_19_16 : (Str.ofString "keep" = Str.ofString "same") = False := eq_false (by decide +kernel)
@[simp] theorem str_19_17 : (Str.ofString "keep" = Str.ofString "both") = False := eq_false (by decide +kernel)
@[simp] theorem str_19_18 : (Str.ofString "keep" = Str.ofString "any") = False := eq_false (by decide +kernel)
@[simp] theorem str_19_20 : (Str.ofString "keep" = Str.ofString "rows") = False := eq_false (by decide +kernel)
@[simp] theorem str_19_21 : (Str.ofString "keep" = Str.ofString "unlike") = False := eq_false (by decide +kernel)
@[simp] theorem str_19_22 : (Str.ofString "keep" = Str.ofString "cap") = False := eq_false (by decide +kernel)
@[simp] theorem str_19_23 : (Str.ofString "keep" = Str.ofString "match") = False := eq_false (by decide +kernel)
@[simp] theorem str_19_24 : (Str.ofString "keep" = Str.ofString "") = False := eq_false (by decide +kernel)
@[simp] theorem str_19_25 : (Str.ofString "keep" = Str.ofString "aB") = False := eq_false (by decide +kernel)
@[simp] theorem str_19_26 : (Str.ofString "keep" = Str.ofString "pow") = False := eq_false (by decide +kernel)
@[simp] theorem str_19_27 : (Str.ofString "keep" = Str.ofString "All") = False := eq_false (by decide +kernel)
@[simp] theorem str_19_28 : (Str.ofString "keep" = Str.ofString "join") = False := eq_false (by decide +kernel)
@[simp] theorem str_19_29 : (Str.ofString "keep" = Str.ofString "count") = False := eq_false (by decide +kernel)
@[simp] theorem str_19_30 : (Str.ofString "keep" = Str.ofString "kinds") = False := eq_false (by decide +kernel)
@[simp] theorem str_19_31 : (Str.ofString "keep" = Str.ofString "sum") = False := eq_false (by decide +kernel)
@[simp] theorem str_19_32 : (Str.ofString "keep" = Str.ofString "mean") = False := eq_false (by decide +kernel)
@[simp] theorem str_20_0 : (Str.ofString "rows" = Str.ofString "num") = False := eq_false (by decide +kernel)
@[simp] theorem str_20_1 : (Str.ofString "rows" = Str.ofString "field") = False := eq_false (by decide +kernel)
@[simp] theorem str_20_2 : (Str.ofString "rows" = Str.ofString "name") = False := eq_false (by decide +kernel)
@[simp] theorem str_20_3 : (Str.ofString "rows" = Str.ofString "a") = False := eq_false (by decide +kernel)
@[simp] theorem str_20_4 : (Str.ofString "rows" = Str.ofString "of") = False := eq_false (by decide +kernel)
@[simp] theorem str_20_5 : (Str.ofString "rows" = Str.ofString "add") = False := eq_false (by decide +kernel)
@[simp] theorem str_20_6 : (Str.ofString "rows" = Str.ofString "zzzzzzzz") = False := eq_false (by decide +kernel)
@[simp] theorem str_20_7 : (Str.ofString "rows" = Str.ofString "all") = False := eq_false (by decide +kernel)
@[simp] theorem str_20_8 : (Str.ofString "rows" = Str.ofString "pick") = False := eq_false (by decide +kernel)
@[simp] theorem str_20_9 : (Str.ofString "rows" = Str.ofString "q") = False := eq_false (by decide +kernel)
@[simp] theorem str_20_10 : (Str.ofString "rows" = Str.ofString "end") = False := eq_false (by decide +kernel)
@[simp] theorem str_20_11 : (Str.ofString "rows" = Str.ofString "not") = False := eq_false (by decide +kernel)
@[simp] theorem str_20_12 : (Str.ofString "rows" = Str.ofString "sub") = False := eq_false (by decide +kernel)
@[simp] theorem str_20_13 : (Str.ofString "rows" = Str.ofString "mul") = False := eq_false (by decide +kernel)
@[simp] theorem str_20_14 : (Str.ofString "rows" = Str.ofString "quo") = False := eq_false (by decide +kernel)
@[simp] theorem str_20_15 : (Str.ofString "rows" = Str.ofString "less") = False := eq_false (by decide +kernel)
@[simp] theorem str_20_16 : (Str.ofString "rows" = Str.ofString "same") = False := eq_false (by decide +kernel)
@[simp] theorem str_20_17 : (Str.ofString "rows" = Str.ofString "both") = False := eq_false (by decide +kernel)
@[simp] theorem str_20_18 : (Str.ofString "rows" = Str.ofString "any") = False := eq_false (by decide +kernel)
@[simp] theorem str_20_19 : (Str.ofString "rows" = Str.ofString "keep") = False := eq_false (by decide +kernel)
@[simp] theorem str_20_21 : (Str.ofString "rows" = Str.ofString "unlike") = False := eq_false (by decide +kernel)
@[simp] theorem str_20_22 : (Str.ofString "rows" = Str.ofString "cap") = False := eq_false (by decide +kernel)
@[simp] theorem str_20_23 : (Str.ofString "rows" = Str.ofString "match") = False := eq_false (by decide +kernel)
@[simp] theorem str_20_24 : (Str.ofString "rows" = Str.ofString "") = False := eq_false (by decide +kernel)
@[simp] theorem str_20_25 : (Str.ofString "rows" = Str.ofString "aB") = False := eq_false (by decide +kernel)
@[simp] theorem str_20_26 : (Str.ofString "rows" = Str.ofString "pow") = False := eq_false (by decide +kernel)
@[simp] theorem str_20_27 : (Str.ofString "rows" = Str.ofString "All") = False := eq_false (by decide +kernel)
@[simp] theorem str_20_28 : (Str.ofString "rows" = Str.ofString "join") = False := eq_false (by decide +kernel)
@[simp] theorem str_20_29 : (Str.ofString "rows" = Str.ofString "count") = False := eq_false (by decide +kernel)
@[simp] theorem str_20_30 : (Str.ofString "rows" = Str.ofString "kinds") = False := eq_false (by decide +kernel)
@[simp] theorem str_20_31 : (Str.ofString "rows" = Str.ofString "sum") = False := eq_false (by decide +kernel)
@[simp] theorem str_20_32 : (Str.ofString "rows" = Str.ofString "mean") = False := eq_false (by decide +kernel)
@[simp] theorem str_21_0 : (Str.ofString "unlike" = Str.ofString "num") = False := eq_false (by decide +kernel)
@[simp] theorem str_21_1 : (Str.ofString "unlike" = Str.ofString "field") = False := eq_false (by decide +kernel)
@[simp] theorem str_21_2 : (Str.ofString "unlike" = Str.ofString "name") = False := eq_false (by decide +kernel)
@[simp] theorem str_21_3 : (Str.ofString "unlike" = Str.ofString "a") = False := eq_false (by decide +kernel)
@[simp] theorem str_21_4 : (Str.ofString "unlike" = Str.ofString "of") = False := eq_false (by decide +kernel)
@[simp] theorem str_21_5 : (Str.ofString "unlike" = Str.ofString "add") = False := eq_false (by decide +kernel)
@[simp] theorem str_21_6 : (Str.ofString "unlike" = Str.ofString "zzzzzzzz") = False := eq_false (by decide +kernel)
@[simp] theorem str_21_7 : (Str.ofString "unlike" = Str.ofString "all") = False := eq_false (by decide +kernel)
@[simp] theorem str_21_8 : (Str.ofString "unlike" = Str.ofString "pick") = False := eq_false (by decide +kernel)
@[simp] theorem str_21_9 : (Str.ofString "unlike" = Str.ofString "q") = False := eq_false (by decide +kernel)
@[simp] theorem str_21_10 : (Str.ofString "unlike" = Str.ofString "end") = False := eq_false (by decide +kernel)
@[simp] theorem str_21_11 : (Str.ofString "unlike" = Str.ofString "not") = False := eq_false (by decide +kernel)
@[simp] theorem str_21_12 : (Str.ofString "unlike" = Str.ofString "sub") = False := eq_false (by decide +kernel)
@[simp] theorem str_21_13 : (Str.ofString "unlike" = Str.ofString "mul") = False := eq_false (by decide +kernel)
@[simp] theorem str_21_14 : (Str.ofString "unlike" = Str.ofString "quo") = False := eq_false (by decide +kernel)
@[simp] theorem str_21_15 : (Str.ofString "unlike" = Str.ofString "less") = False := eq_false (by decide +kernel)
@[simp] theorem str_21_16 : (Str.ofString "unlike" = Str.ofString "same") = False := eq_false (by decide +kernel)
@[simp] theorem str_21_17 : (Str.ofString "unlike" = Str.ofString "both") = False := eq_false (by decide +kernel)
@[simp] theorem str_21_18 : (Str.ofString "unlike" = Str.ofString "any") = False := eq_false (by decide +kernel)
@[simp] theorem str_21_19 : (Str.ofString "unlike" = Str.ofString "keep") = False := eq_false (by decide +kernel)
@[simp] theorem str_21_20 : (Str.ofString "unlike" = Str.ofString "rows") = False := eq_false (by decide +kernel)
@[simp] theorem str_21_22 : (Str.ofString "unlike" = Str.ofString "cap") = False := eq_false (by decide +kernel)
@[simp] theorem str_21_23 : (Str.ofString "unlike" = Str.ofString "match") = False := eq_false (by decide +kernel)
@[simp] theorem str_21_24 : (Str.ofString "unlike" = Str.ofString "") = False := eq_false (by decide +kernel)
@[simp] theorem str_21_25 : (Str.ofString "unlike" = Str.ofString "aB") = False := eq_false (by decide +kernel)
@[simp] theorem str_21_26 : (Str.ofString "unlike" = Str.ofString "pow") = False := eq_false (by decide +kernel)
@[simp] theorem str_21_27 : (Str.ofString "unlike" = Str.ofString "All") = False := eq_false (by decide +kernel)
@[simp] theorem str_21_28 : (Str.ofString "unlike" = Str.ofString "join") = False := eq_false (by decide +kernel)
@[simp] theorem str_21_29 : (Str.ofString "unlike" = Str.ofString "count") = False := eq_false (by decide +kernel)
@[simp] theorem str_21_30 : (Str.ofString "unlike" = Str.ofString "kinds") = False := eq_false (by decide +kernel)
@[simp] theorem str_21_31 : (Str.ofString "unlike" = Str.ofString "sum") = False := eq_false (by decide +kernel)
@[simp] theorem str_21_32 : (Str.ofString "unlike" = Str.ofString "mean") = False := eq_false (by decide +kernel)
@[simp] theorem str_22_0 : (Str.ofString "cap" = Str.ofString "num") = False := eq_false (by decide +kernel)
@[simp] theorem str_22_1 : (Str.ofString "cap" = Str.ofString "field") = False := eq_false (by decide +kernel)
@[simp] theorem str_22_2 : (Str.ofString "cap" = Str.ofString "name") = False := eq_false (by decide +kernel)
@[simp] theorem str_22_3 : (Str.ofString "cap" = Str.ofString "a") = False := eq_false (by decide +kernel)
@[simp] theorem str_22_4 : (Str.ofString "cap" = Str.ofString "of") = False := eq_false (by decide +kernel)
@[simp] theorem str_22_5 : (Str.ofString "cap" = Str.ofString "add") = False := eq_false (by decide +kernel)
@[simp] theorem str_22_6 : (Str.ofString "cap" = Str.ofString "zzzzzzzz") = False := eq_false (by decide +kernel)
@[simp] theorem str_22_7 : (Str.ofString "cap" = Str.ofString "all") = False := eq_false (by decide +kernel)
@[simp] theorem str_22_8 : (Str.ofString "cap" = Str.ofString "pick") = False := eq_false (by decide +kernel)
@[simp] theorem str_22_9 : (Str.ofString "cap" = Str.ofString "q") = False := eq_false (by decide +kernel)
@[simp] theorem str_22_10 : (Str.ofString "cap" = Str.ofString "end") = False := eq_false (by decide +kernel)
@[simp] theorem str_22_11 : (Str.ofString "cap" = Str.ofString "not") = False := eq_false (by decide +kernel)
@[simp] theorem str_22_12 : (Str.ofString "cap" = Str.ofString "sub") = False := eq_false (by decide +kernel)
@[simp] theorem str_22_13 : (Str.ofString "cap" = Str.ofString "mul") = False := eq_false (by decide +kernel)
@[simp] theorem str_22_14 : (Str.ofString "cap" = Str.ofString "quo") = False := eq_false (by decide +kernel)
@[simp] theorem str_22_15 : (Str.ofString "cap" = Str.ofString "less") = False := eq_false (by decide +kernel)
@[simp] theorem str_22_16 : (Str.ofString "cap" = Str.ofString "same") = False := eq_false (by decide +kernel)
@[simp] theorem str_22_17 : (Str.ofString "cap" = Str.ofString "both") = False := eq_false (by decide +kernel)
@[simp] theorem str_22_18 : (Str.ofString "cap" = Str.ofString "any") = False := eq_false (by decide +kernel)
@[simp] theorem str_22_19 : (Str.ofString "cap" = Str.ofString "keep") = False := eq_false (by decide +kernel)
@[simp] theorem str_22_20 : (Str.ofString "cap" = Str.ofString "rows") = False := eq_false (by decide +kernel)
@[simp] theorem str_22_21 : (Str.ofString "cap" = Str.ofString "unlike") = False := eq_false (by decide +kernel)
@[simp] theorem str_22_23 : (Str.ofString "cap" = Str.ofString "match") = False := eq_false (by decide +kernel)
@[simp] theorem str_22_24 : (Str.ofString "cap" = Str.ofString "") = False := eq_false (by decide +kernel)
@[simp] theorem str_22_25 : (Str.ofString "cap" = Str.ofString "aB") = False := eq_false (by decide +kernel)
@[simp] theorem str_22_26 : (Str.ofString "cap" = Str.ofString "pow") = False := eq_false (by decide +kernel)
@[simp] theorem str_22_27 : (Str.ofString "cap" = Str.ofString "All") = False := eq_false (by decide +kernel)
@[simp] theorem str_22_28 : (Str.ofString "cap" = Str.ofString "join") = False := eq_false (by decide +kernel)
@[simp] theorem str_22_29 : (Str.ofString "cap" = Str.ofString "count") = False := eq_false (by decide +kernel)
@[simp] theorem str_22_30 : (Str.ofString "cap" = Str.ofString "kinds") = False := eq_false (by decide +kernel)
@[simp] theorem str_22_31 : (Str.ofString "cap" = Str.ofString "sum") = False := eq_false (by decide +kernel)
@[simp] theorem str_22_32 : (Str.ofString "cap" = Str.ofString "mean") = False := eq_false (by decide +kernel)
@[simp] theorem str_23_0 : (Str.ofString "match" = Str.ofString "num") = False := eq_false (by decide +kernel)
@[simp] theorem str_23_1 : (Str.ofString "match" = Str.ofString "field") = False := eq_false (by decide +kernel)
@[simp] theorem str_23_2 : (Str.ofString "match" = Str.ofString "name") = False := eq_false (by decide +kernel)
@[simp] theorem str_23_3 : (Str.ofString "match" = Str.ofString "a") = False := eq_false (by decide +kernel)
@[simp] theorem str_23_4 : (Str.ofString "match" = Str.ofString "of") = False := eq_false (by decide +kernel)
@[simp] theorem str_23_5 : (Str.ofString "match" = Str.ofString "add") = False := eq_false (by decide +kernel)
@[simp] theorem str_23_6 : (Str.ofString "match" = Str.ofString "zzzzzzzz") = False := eq_false (by decide +kernel)
@[simp] theorem str_23_7 : (Str.ofString "match" = Str.ofString "all") = False := eq_false (by decide +kernel)
@[simp] theorem str_23_8 : (Str.ofString "match" = Str.ofString "pick") = False := eq_false (by decide +kernel)
@[simp] theorem str_23_9 : (Str.ofString "match" = Str.ofString "q") = False := eq_false (by decide +kernel)
@[simp] theorem str_23_10 : (Str.ofString "match" = Str.ofString "end") = False := eq_false (by decide +kernel)
@[simp] theorem str_23_11 : (Str.ofString "match" = Str.ofString "not") = False := eq_false (by decide +kernel)
@[simp] theorem str_23_12 : (Str.ofString "match" = Str.ofString "sub") = False := eq_false (by decide +kernel)
@[simp] theorem str_23_13 : (Str.ofString "match" = Str.ofString "mul") = False := eq_false (by decide +kernel)
@[simp] theorem str_23_14 : (Str.ofString "match" = Str.ofString "quo") = False := eq_false (by decide +kernel)
@[simp] theorem str_23_15 : (Str.ofString "match" = Str.ofString "less") = False := eq_false (by decide +kernel)
@[simp] theorem str_23_16 : (Str.ofString "match" = Str.ofString "same") = False := eq_false (by decide +kernel)
@[simp] theorem str_23_17 : (Str.ofString "match" = Str.ofString "both") = False := eq_false (by decide +kernel)
@[simp] theorem str_23_18 : (Str.ofString "match" = Str.ofString "any") = False := eq_false (by decide +kernel)
@[simp] theorem str_23_19 : (Str.ofString "match" = Str.ofString "keep") = False := eq_false (by decide +kernel)
@[simp] theorem str_23_20 : (Str.ofString "match" = Str.ofString "rows") = False := eq_false (by decide +kernel)
@[simp] theorem str_23_21 : (Str.ofString "match" = Str.ofString "unlike") = False := eq_false (by decide +kernel)
@[simp] theorem str_23_22 : (Str.ofString "match" = Str.ofString "cap") = False := eq_false (by decide +kernel)
@[simp] theorem str_23_24 : (Str.ofString "match" = Str.ofString "") = False := eq_false (by decide +kernel)
@[simp] theorem str_23_25 : (Str.ofString "match" = Str.ofString "aB") = False := eq_false (by decide +kernel)
@[simp] theorem str_23_26 : (Str.ofString "match" = Str.ofString "pow") = False := eq_false (by decide +kernel)
@[simp] theorem str_23_27 : (Str.ofString "match" = Str.ofString "All") = False := eq_false (by decide +kernel)
@[simp] theorem str_23_28 : (Str.ofString "match" = Str.ofString "join") = False := eq_false (by decide +kernel)
@[simp] theorem str_23_29 : (Str.ofString "match" = Str.ofString "count") = False := eq_false (by decide +kernel)
@[simp] theorem str_23_30 : (Str.ofString "match" = Str.ofString "kinds") = False := eq_false (by decide +kernel)
@[simp] theorem str_23_31 : (Str.ofString "match" = Str.ofString "sum") = False := eq_false (by decide +kernel)
@[simp] theorem str_23_32 : (Str.ofString "match" = Str.ofString "mean") = False := eq_false (by decide +kernel)
@[simp] theorem str_24_0 : (Str.ofString "" = Str.ofString "num") = False := eq_false (by decide +kernel)
@[simp] theorem str_24_1 : (Str.ofString "" = Str.ofString "field") = False := eq_false (by decide +kernel)
@[simp] theorem str_24_2 : (Str.ofString "" = Str.ofString "name") = False := eq_false (by decide +kernel)
@[simp] theorem str_24_3 : (Str.ofString "" = Str.ofString "a") = False := eq_false (by decide +kernel)
@[simp] theorem str_24_4 : (Str.ofString "" = Str.ofString "of") = False := eq_false (by decide +kernel)
@[simp] theorem str_24_5 : (Str.ofString "" = Str.ofString "add") = False := eq_false (by decide +kernel)
@[simp] theorem str_24_6 : (Str.ofString "" = Str.ofString "zzzzzzzz") = False := eq_false (by decide +kernel)
@[simp] theorem str_24_7 : (Str.ofString "" = Str.ofString "all") = False := eq_false (by decide +kernel)
@[simp] theorem str_24_8 : (Str.ofString "" = Str.ofString "pick") = False := eq_false (by decide +kernel)
@[simp] theorem str_24_9 : (Str.ofString "" = Str.ofString "q") = False := eq_false (by decide +kernel)
@[simp] theorem str_24_10 : (Str.ofString "" = Str.ofString "end") = False := eq_false (by decide +kernel)
@[simp] theorem str_24_11 : (Str.ofString "" = Str.ofString "not") = False := eq_false (by decide +kernel)
@[simp] theorem str_24_12 : (Str.ofString "" = Str.ofString "sub") = False := eq_false (by decide +kernel)
@[simp] theorem str_24_13 : (Str.ofString "" = Str.ofString "mul") = False := eq_false (by decide +kernel)
@[simp] theorem str_24_14 : (Str.ofString "" = Str.ofString "quo") = False := eq_false (by decide +kernel)
@[simp] theorem str_24_15 : (Str.ofString "" = Str.ofString "less") = False := eq_false (by decide +kernel)
@[simp] theorem str_24_16 : (Str.ofString "" = Str.ofString "same") = False := eq_false (by decide +kernel)
@[simp] theorem str_24_17 : (Str.ofString "" = Str.ofString "both") = False := eq_false (by decide +kernel)
@[simp] theorem str_24_18 : (Str.ofString "" = Str.ofString "any") = False := eq_false (by decide +kernel)
@[simp] theorem str_24_19 : (Str.ofString "" = Str.ofString "keep") = False := eq_false (by decide +kernel)
@[simp] theorem str_24_20 : (Str.ofString "" = Str.ofString "rows") = False := eq_false (by decide +kernel)
@[simp] theorem str_24_21 : (Str.ofString "" = Str.ofString "unlike") = False := eq_false (by decide +kernel)
@[simp] theorem str_24_22 : (Str.ofString "" = Str.ofString "cap") = False := eq_false (by decide +kernel)
@[simp] theorem str_24_23 : (Str.ofString "" = Str.ofString "match") = False := eq_false (by decide +kernel)
@[simp] theorem str_24_25 : (Str.ofString "" = Str.ofString "aB") = False := eq_false (by decide +kernel)
@[simp] theorem str_24_26 : (Str.ofString "" = Str.ofString "pow") = False := eq_false (by decide +kernel)
@[simp] theorem str_24_27 : (Str.ofString "" = Str.ofString "All") = False := eq_false (by decide +kernel)
@[simp] theorem str_24_28 : (Str.ofString "" = Str.ofString "join") = False := eq_false (by decide +kernel)
@[simp] theorem str_24_29 : (Str.ofString "" = Str.ofString "count") = False := eq_false (by decide +kernel)
@[simp] theorem str_24_30 : (Str.ofString "" = Str.ofString "kinds") = False := eq_false (by decide +kernel)
@[simp] theorem str_24_31 : (Str.ofString "" = Str.ofString "sum") = False := eq_false (by decide +kernel)
@[simp] theorem str_24_32 : (Str.ofString "" = Str.ofString "mean") = False := eq_false (by decide +kernel)
@[simp] theorem str_25_0 : (Str.ofString "aB" = Str.ofString "num") = False := eq_false (by decide +kernel)
@[simp] theorem str_25_1 : (Str.ofString "aB" = Str.ofString "field") = False := eq_false (by decide +kernel)
@[simp] theorem str_25_2 : (Str.ofString "aB" = Str.ofString "name") = False := eq_false (by decide +kernel)
@[simp] theorem str_25_3 : (Str.ofString "aB" = Str.ofString "a") = False := eq_false (by decide +kernel)
@[simp] theorem str_25_4 : (Str.ofString "aB" = Str.ofString "of") = False := eq_false (by decide +kernel)
@[simp] theorem str_25_5 : (Str.ofString "aB" = Str.ofString "add") = False := eq_false (by decide +kernel)
@[simp] theorem str_25_6 : (Str.ofString "aB" = Str.ofString "zzzzzzzz") = False := eq_false (by decide +kernel)
@[simp] theorem str_25_7 : (Str.ofString "aB" = Str.ofString "all") = False := eq_false (by decide +kernel)
@[simp] theorem str_25_8 : (Str.ofString "aB" = Str.ofString "pick") = False := eq_false (by decide +kernel)
@[simp] theorem str_25_9 : (Str.ofString "aB" = Str.ofString "q") = False := eq_false (by decide +kernel)
@[simp] theorem str_25_10 : (Str.ofString "aB" = Str.ofString "end") = False := eq_false (by decide +kernel)
@[simp] theorem str_25_11 : (Str.ofString "aB" = Str.ofString "not") = False := eq_false (by decide +kernel)
@[simp] theorem str_25_12 : (Str.ofString "aB" = Str.ofString "sub") = False := eq_false (by decide +kernel)
@[simp] theorem str_25_13 : (Str.ofString "aB" = Str.ofString "mul") = False := eq_false (by decide +kernel)
@[simp] theorem str_25_14 : (Str.ofString "aB" = Str.ofString "quo") = False := eq_false (by decide +kernel)
@[simp] theorem str_25_15 : (Str.ofString "aB" = Str.ofString "less") = False := eq_false (by decide +kernel)
@[simp] theorem str_25_16 : (Str.ofString "aB" = Str.ofString "same") = False := eq_false (by decide +kernel)
@[simp] theorem str_25_17 : (Str.ofString "aB" = Str.ofString "both") = False := eq_false (by decide +kernel)
@[simp] theorem str_25_18 : (Str.ofString "aB" = Str.ofString "any") = False := eq_false (by decide +kernel)
@[simp] theorem str_25_19 : (Str.ofString "aB" = Str.ofString "keep") = False := eq_false (by decide +kernel)
@[simp] theorem str_25_20 : (Str.ofString "aB" = Str.ofString "rows") = False := eq_false (by decide +kernel)
@[simp] theorem str_25_21 : (Str.ofString "aB" = Str.ofString "unlike") = False := eq_false (by decide +kernel)
@[simp] theorem str_25_22 : (Str.ofString "aB" = Str.ofString "cap") = False := eq_false (by decide +kernel)
@[simp] theorem str_25_23 : (Str.ofString "aB" = Str.ofString "match") = False := eq_false (by decide +kernel)
@[simp] theorem str_25_24 : (Str.ofString "aB" = Str.ofString "") = False := eq_false (by decide +kernel)
@[simp] theorem str_25_26 : (Str.ofString "aB" = Str.ofString "pow") = False := eq_false (by decide +kernel)
@[simp] theorem str_25_27 : (Str.ofString "aB" = Str.ofString "All") = False := eq_false (by decide +kernel)
@[simp] theorem str_25_28 : (Str.ofString "aB" = Str.ofString "join") = False := eq_false (by decide +kernel)
@[simp] theorem str_25_29 : (Str.ofString "aB" = Str.ofString "count") = False := eq_false (by decide +kernel)
@[simp] theorem str_25_30 : (Str.ofString "aB" = Str.ofString "kinds") = False := eq_false (by decide +kernel)
@[simp] theorem str_25_31 : (Str.ofString "aB" = Str.ofString "sum") = False := eq_false (by decide +kernel)
@[simp] theorem str_25_32 : (Str.ofString "aB" = Str.ofString "mean") = False := eq_false (by decide +kernel)
@[simp] theorem str_26_0 : (Str.ofString "pow" = Str.ofString "num") = False := eq_false (by decide +kernel)
@[simp] theorem str_26_1 : (Str.ofString "pow" = Str.ofString "field") = False := eq_false (by decide +kernel)
@[simp] theorem str_26_2 : (Str.ofString "pow" = Str.ofString "name") = False := eq_false (by decide +kernel)
@[simp] theorem str_26_3 : (Str.ofString "pow" = Str.ofString "a") = False := eq_false (by decide +kernel)
@[simp] theorem str_26_4 : (Str.ofString "pow" = Str.ofString "of") = False := eq_false (by decide +kernel)
@[simp] theorem str_26_5 : (Str.ofString "pow" = Str.ofString "add") = False := eq_false (by decide +kernel)
@[simp] theorem str_26_6 : (Str.ofString "pow" = Str.ofString "zzzzzzzz") = False := eq_false (by decide +kernel)
@[simp] theorem str_26_7 : (Str.ofString "pow" = Str.ofString "all") = False := eq_false (by decide +kernel)
@[simp] theorem str_26_8 : (Str.ofString "pow" = Str.ofString "pick") = False := eq_false (by decide +kernel)
@[simp] theorem str_26_9 : (Str.ofString "pow" = Str.ofString "q") = False := eq_false (by decide +kernel)
@[simp] theorem str_26_10 : (Str.ofString "pow" = Str.ofString "end") = False := eq_false (by decide +kernel)
@[simp] theorem str_26_11 : (Str.ofString "pow" = Str.ofString "not") = False := eq_false (by decide +kernel)
@[simp] theorem str_26_12 : (Str.ofString "pow" = Str.ofString "sub") = False := eq_false (by decide +kernel)
@[simp] theorem str_26_13 : (Str.ofString "pow" = Str.ofString "mul") = False := eq_false (by decide +kernel)
@[simp] theorem str_26_14 : (Str.ofString "pow" = Str.ofString "quo") = False := eq_false (by decide +kernel)
@[simp] theorem str_26_15 : (Str.ofString "pow" = Str.ofString "less") = False := eq_false (by decide +kernel)
@[simp] theorem str_26_16 : (Str.ofString "pow" = Str.ofString "same") = False := eq_false (by decide +kernel)
@[simp] theorem str_26_17 : (Str.ofString "pow" = Str.ofString "both") = False := eq_false (by decide +kernel)
@[simp] theorem str_26_18 : (Str.ofString "pow" = Str.ofString "any") = False := eq_false (by decide +kernel)
@[simp] theorem str_26_19 : (Str.ofString "pow" = Str.ofString "keep") = False := eq_false (by decide +kernel)
@[simp] theorem str_26_20 : (Str.ofString "pow" = Str.ofString "rows") = False := eq_false (by decide +kernel)
@[simp] theorem str_26_21 : (Str.ofString "pow" = Str.ofString "unlike") = False := eq_false (by decide +kernel)
@[simp] theorem str_26_22 : (Str.ofString "pow" = Str.ofString "cap") = False := eq_false (by decide +kernel)
@[simp] theorem str_26_23 : (Str.ofString "pow" = Str.ofString "match") = False := eq_false (by decide +kernel)
@[simp] theorem str_26_24 : (Str.ofString "pow" = Str.ofString "") = False := eq_false (by decide +kernel)
@[simp] theorem str_26_25 : (Str.ofString "pow" = Str.ofString "aB") = False := eq_false (by decide +kernel)
@[simp] theorem str_26_27 : (Str.ofString "pow" = Str.ofString "All") = False := eq_false (by decide +kernel)
@[simp] theorem str_26_28 : (Str.ofString "pow" = Str.ofString "join") = False := eq_false (by decide +kernel)
@[simp] theorem str_26_29 : (Str.ofString "pow" = Str.ofString "count") = False := eq_false (by decide +kernel)
@[simp] theorem str_26_30 : (Str.ofString "pow" = Str.ofString "kinds") = False := eq_false (by decide +kernel)
@[simp] theorem str_26_31 : (Str.ofString "pow" = Str.ofString "sum") = False := eq_false (by decide +kernel)
@[simp] theorem str_26_32 : (Str.ofString "pow" = Str.ofString "mean") = False := eq_false (by decide +kernel)
@[simp] theorem str_27_0 : (Str.ofString "All" = Str.ofString "num") = False := eq_false (by decide +kernel)
@[simp] theorem str_27_1 : (Str.ofString "All" = Str.ofString "field") = False := eq_false (by decide +kernel)
@[simp] theorem str_27_2 : (Str.ofString "All" = Str.ofString "name") = False := eq_false (by decide +kernel)
@[simp] theorem str_27_3 : (Str.ofString "All" = Str.ofString "a") = False := eq_false (by decide +kernel)
@[simp] theorem str_27_4 : (Str.ofString "All" = Str.ofString "of") = False := eq_false (by decide +kernel)
@[simp] theorem str_27_5 : (Str.ofString "All" = Str.ofString "add") = False := eq_false (by decide +kernel)
@[simp] theorem str_27_6 : (Str.ofString "All" = Str.ofString "zzzzzzzz") = False := eq_false (by decide +kernel)
@[simp] theorem str_27_7 : (Str.ofString "All" = Str.ofString "all") = False := eq_false (by decide +kernel)
@[simp] theorem str_27_8 : (Str.ofString "All" = Str.ofString "pick") = False := eq_false (by decide +kernel)
@[simp] theorem str_27_9 : (Str.ofString "All" = Str.ofString "q") = False := eq_false (by decide +kernel)
@[simp] theorem str_27_10 : (Str.ofString "All" = Str.ofString "end") = False := eq_false (by decide +kernel)
@[simp] theorem str_27_11 : (Str.ofString "All" = Str.ofString "not") = False := eq_false (by decide +kernel)
@[simp] theorem str_27_12 : (Str.ofString "All" = Str.ofString "sub") = False := eq_false (by decide +kernel)
@[simp] theorem str_27_13 : (Str.ofString "All" = Str.ofString "mul") = False := eq_false (by decide +kernel)
@[simp] theorem str_27_14 : (Str.ofString "All" = Str.ofString "quo") = False := eq_false (by decide +kernel)
@[simp] theorem str_27_15 : (Str.ofString "All" = Str.ofString "less") = False := eq_false (by decide +kernel)
@[simp] theorem str_27_16 : (Str.ofString "All" = Str.ofString "same") = False := eq_false (by decide +kernel)
@[simp] theorem str_27_17 : (Str.ofString "All" = Str.ofString "both") = False := eq_false (by decide +kernel)
@[simp] theorem str_27_18 : (Str.ofString "All" = Str.ofString "any") = False := eq_false (by decide +kernel)
@[simp] theorem str_27_19 : (Str.ofString "All" = Str.ofString "keep") = False := eq_false (by decide +kernel)
@[simp] theorem str_27_20 : (Str.ofString "All" = Str.ofString "rows") = False := eq_false (by decide +kernel)
@[simp] theorem str_27_21 : (Str.ofString "All" = Str.ofString "unlike") = False := eq_false (by decide +kernel)
@[simp] theorem str_27_22 : (Str.ofString "All" = Str.ofString "cap") = False := eq_false (by decide +kernel)
@[simp] theorem str_27_23 : (Str.ofString "All" = Str.ofString "match") = False := eq_false (by decide +kernel)
@[simp] theorem str_27_24 : (Str.ofString "All" = Str.ofString "") = False := eq_false (by decide +kernel)
@[simp] theorem str_27_25 : (Str.ofString "All" = Str.ofString "aB") = False := eq_false (by decide +kernel)
@[simp] theorem str_27_26 : (Str.ofString "All" = Str.ofString "pow") = False := eq_false (by decide +kernel)
@[simp] theorem str_27_28 : (Str.ofString "All" = Str.ofString "join") = False := eq_false (by decide +kernel)
@[simp] theorem str_27_29 : (Str.ofString "All" = Str.ofString "count") = False := eq_false (by decide +kernel)
@[simp] theorem str_27_30 : (Str.ofString "All" = Str.ofString "kinds") = False := eq_false (by decide +kernel)
@[simp] theorem str_27_31 : (Str.ofString "All" = Str.ofString "sum") = False := eq_false (by decide +kernel)
@[simp] theorem str_27_32 : (Str.ofString "All" = Str.ofString "mean") = False := eq_false (by decide +kernel)
@[simp] theorem str_28_0 : (Str.ofString "join" = Str.ofString "num") = False := eq_false (by decide +kernel)
@[simp] theorem str_28_1 : (Str.ofString "join" = Str.ofString "field") = False := eq_false (by decide +kernel)
@[simp] theorem str_28_2 : (Str.ofString "join" = Str.ofString "name") = False := eq_false (by decide +kernel)
@[simp] theorem str_28_3 : (Str.ofString "join" = Str.ofString "a") = False := eq_false (by decide +kernel)
@[simp] theorem str_28_4 : (Str.ofString "join" = Str.ofString "of") = False := eq_false (by decide +kernel)
@[simp] theorem str_28_5 : (Str.ofString "join" = Str.ofString "add") = False := eq_false (by decide +kernel)
@[simp] theorem str_28_6 : (Str.ofString "join" = Str.ofString "zzzzzzzz") = False := eq_false (by decide +kernel)
@[simp] theorem str_28_7 : (Str.ofString "join" = Str.ofString "all") = False := eq_false (by decide +kernel)
@[simp] theorem str_28_8 : (Str.ofString "join" = Str.ofString "pick") = False := eq_false (by decide +kernel)
@[simp] theorem str_28_9 : (Str.ofString "join" = Str.ofString "q") = False := eq_false (by decide +kernel)
@[simp] theorem str_28_10 : (Str.ofString "join" = Str.ofString "end") = False := eq_false (by decide +kernel)
@[simp] theorem str_28_11 : (Str.ofString "join" = Str.ofString "not") = False := eq_false (by decide +kernel)
@[simp] theorem str_28_12 : (Str.ofString "join" = Str.ofString "sub") = False := eq_false (by decide +kernel)
@[simp] theorem str_28_13 : (Str.ofString "join" = Str.ofString "mul") = False := eq_false (by decide +kernel)
@[simp] theorem str_28_14 : (Str.ofString "join" = Str.ofString "quo") = False := eq_false (by decide +kernel)
@[simp] theorem str_28_15 : (Str.ofString "join" = Str.ofString "less") = False := eq_false (by decide +kernel)
@[simp] theorem str_28_16 : (Str.ofString "join" = Str.ofString "same") = False := eq_false (by decide +kernel)
@[simp] theorem str_28_17 : (Str.ofString "join" = Str.ofString "both") = False := eq_false (by decide +kernel)
@[simp] theorem str_28_18 : (Str.ofString "join" = Str.ofString "any") = False := eq_false (by decide +kernel)
@[simp] theorem str_28_19 : (Str.ofString "join" = Str.ofString "keep") = False := eq_false (by decide +kernel)
@[simp] theorem str_28_20 : (Str.ofString "join" = Str.ofString "rows") = False := eq_false (by decide +kernel)
@[simp] theorem str_28_21 : (Str.ofString "join" = Str.ofString "unlike") = False := eq_false (by decide +kernel)
@[simp] theorem str_28_22 : (Str.ofString "join" = Str.ofString "cap") = False := eq_false (by decide +kernel)
@[simp] theorem str_28_23 : (Str.ofString "join" = Str.ofString "match") = False := eq_false (by decide +kernel)
@[simp] theorem str_28_24 : (Str.ofString "join" = Str.ofString "") = False := eq_false (by decide +kernel)
@[simp] theorem str_28_25 : (Str.ofString "join" = Str.ofString "aB") = False := eq_false (by decide +kernel)
@[simp] theorem str_28_26 : (Str.ofString "join" = Str.ofString "pow") = False := eq_false (by decide +kernel)
@[simp] theorem str_28_27 : (Str.ofString "join" = Str.ofString "All") = False := eq_false (by decide +kernel)
@[simp] theorem str_28_29 : (Str.ofString "join" = Str.ofString "count") = False := eq_false (by decide +kernel)
@[simp] theorem str_28_30 : (Str.ofString "join" = Str.ofString "kinds") = False := eq_false (by decide +kernel)
@[simp] theorem str_28_31 : (Str.ofString "join" = Str.ofString "sum") = False := eq_false (by decide +kernel)
@[simp] theorem str_28_32 : (Str.ofString "join" = Str.ofString "mean") = False := eq_false (by decide +kernel)
@[simp] theorem str_29_0 : (Str.ofString "count" = Str.ofString "num") = False := eq_false (by decide +kernel)
@[simp] theorem str_29_1 : (Str.ofString "count" = Str.ofString "field") = False := eq_false (by decide +kernel)
@[simp] theorem str_29_2 : (Str.ofString "count" = Str.ofString "name") = False := eq_false (by decide +kernel)
@[simp] theorem str_29_3 : (Str.ofString "count" = Str.ofString "a") = False := eq_false (by decide +kernel)
@[simp] theorem str_29_4 : (Str.ofString "count" = Str.ofString "of") = False := eq_false (by decide +kernel)
@[simp] theorem str_29_5 : (Str.ofString "count" = Str.ofString "add") = False := eq_false (by decide +kernel)
@[simp] theorem str_29_6 : (Str.ofString "count" = Str.ofString "zzzzzzzz") = False := eq_false (by decide +kernel)
@[simp] theorem str_29_7 : (Str.ofString "count" = Str.ofString "all") = False := eq_false (by decide +kernel)
@[simp] theorem str_29_8 : (Str.ofString "count" = Str.ofString "pick") = False := eq_false (by decide +kernel)
@[simp] theorem str_29_9 : (Str.ofString "count" = Str.ofString "q") = False := eq_false (by decide +kernel)
@[simp] theorem str_29_10 : (Str.ofString "count" = Str.ofString "end") = False := eq_false (by decide +kernel)
@[simp] theorem str_29_11 : (Str.ofString "count" = Str.ofString "not") = False := eq_false (by decide +kernel)
@[simp] theorem str_29_12 : (Str.ofString "count" = Str.ofString "sub") = False := eq_false (by decide +kernel)
@[simp] theorem str_29_13 : (Str.ofString "count" = Str.ofString "mul") = False := eq_false (by decide +kernel)
@[simp] theorem str_29_14 : (Str.ofString "count" = Str.ofString "quo") = False := eq_false (by decide +kernel)
@[simp] theorem str_29_15 : (Str.ofString "count" = Str.ofString "less") = False := eq_false (by decide +kernel)
@[simp] theorem str_29_16 : (Str.ofString "count" = Str.ofString "same") = False := eq_false (by decide +kernel)
@[simp] theorem str_29_17 : (Str.ofString "count" = Str.ofString "both") = False := eq_false (by decide +kernel)
@[simp] theorem str_29_18 : (Str.ofString "count" = Str.ofString "any") = False := eq_false (by decide +kernel)
@[simp] theorem str_29_19 : (Str.ofString "count" = Str.ofString "keep") = False := eq_false (by decide +kernel)
@[simp] theorem str_29_20 : (Str.ofString "count" = Str.ofString "rows") = False := eq_false (by decide +kernel)
@[simp] theorem str_29_21 : (Str.ofString "count" = Str.ofString "unlike") = False := eq_false (by decide +kernel)
@[simp] theorem str_29_22 : (Str.ofString "count" = Str.ofString "cap") = False := eq_false (by decide +kernel)
@[simp] theorem str_29_23 : (Str.ofString "count" = Str.ofString "match") = False := eq_false (by decide +kernel)
@[simp] theorem str_29_24 : (Str.ofString "count" = Str.ofString "") = False := eq_false (by decide +kernel)
@[simp] theorem str_29_25 : (Str.ofString "count" = Str.ofString "aB") = False := eq_false (by decide +kernel)
@[simp] theorem str_29_26 : (Str.ofString "count" = Str.ofString "pow") = False := eq_false (by decide +kernel)
@[simp] theorem str_29_27 : (Str.ofString "count" = Str.ofString "All") = False := eq_false (by decide +kernel)
@[simp] theorem str_29_28 : (Str.ofString "count" = Str.ofString "join") = False := eq_false (by decide +kernel)
@[simp] theorem str_29_30 : (Str.ofString "count" = Str.ofString "kinds") = False := eq_false (by decide +kernel)
@[simp] theorem str_29_31 : (Str.ofString "count" = Str.ofString "sum") = False := eq_false (by decide +kernel)
@[simp] theorem str_29_32 : (Str.ofString "count" = Str.ofString "mean") = False := eq_false (by decide +kernel)
@[simp] theorem str_30_0 : (Str.ofString "kinds" = Str.ofString "num") = False := eq_false (by decide +kernel)
@[simp] theorem str_30_1 : (Str.ofString "kinds" = Str.ofString "field") = False := eq_false (by decide +kernel)
@[simp] theorem str_30_2 : (Str.ofString "kinds" = Str.ofString "name") = False := eq_false (by decide +kernel)
@[simp] theorem str_30_3 : (Str.ofString "kinds" = Str.ofString "a") = False := eq_false (by decide +kernel)
@[simp] theorem str_30_4 : (Str.ofString "kinds" = Str.ofString "of") = False := eq_false (by decide +kernel)
@[simp] theorem str_30_5 : (Str.ofString "kinds" = Str.ofString "add") = False := eq_false (by decide +kernel)
@[simp] theorem str_30_6 : (Str.ofString "kinds" = Str.ofString "zzzzzzzz") = False := eq_false (by decide +kernel)
@[simp] theorem str_30_7 : (Str.ofString "kinds" = Str.ofString "all") = False := eq_false (by decide +kernel)
@[simp] theorem str_30_8 : (Str.ofString "kinds" = Str.ofString "pick") = False := eq_false (by decide +kernel)
@[simp] theorem str_30_9 : (Str.ofString "kinds" = Str.ofString "q") = False := eq_false (by decide +kernel)
@[simp] theorem str_30_10 : (Str.ofString "kinds" = Str.ofString "end") = False := eq_false (by decide +kernel)
@[simp] theorem str_30_11 : (Str.ofString "kinds" = Str.ofString "not") = False := eq_false (by decide +kernel)
@[simp] theorem str_30_12 : (Str.ofString "kinds" = Str.ofString "sub") = False := eq_false (by decide +kernel)
@[simp] theorem str_30_13 : (Str.ofString "kinds" = Str.ofString "mul") = False := eq_false (by decide +kernel)
@[simp] theorem str_30_14 : (Str.ofString "kinds" = Str.ofString "quo") = False := eq_false (by decide +kernel)
@[simp] theorem str_30_15 : (Str.ofString "kinds" = Str.ofString "less") = False := eq_false (by decide +kernel)
@[simp] theorem str_30_16 : (Str.ofString "kinds" = Str.ofString "same") = False := eq_false (by decide +kernel)
@[simp] theorem str_30_17 : (Str.ofString "kinds" = Str.ofString "both") = False := eq_false (by decide +kernel)
@[simp] theorem str_30_18 : (Str.ofString "kinds" = Str.ofString "any") = False := eq_false (by decide +kernel)
@[simp] theorem str_30_19 : (Str.ofString "kinds" = Str.ofString "keep") = False := eq_false (by decide +kernel)
@[simp] theorem str_30_20 : (Str.ofString "kinds" = Str.ofString "rows") = False := eq_false (by decide +kernel)
@[simp] theorem str_30_21 : (Str.ofString "kinds" = Str.ofString "unlike") = False := eq_false (by decide +kernel)
@[simp] theorem str_30_22 : (Str.ofString "kinds" = Str.ofString "cap") = False := eq_false (by decide +kernel)
@[simp] theorem str_30_23 : (Str.ofString "kinds" = Str.ofString "match") = False := eq_false (by decide +kernel)
@[simp] theorem str_30_24 : (Str.ofString "kinds" = Str.ofString "") = False := eq_false (by decide +kernel)
@[simp] theorem str_30_25 : (Str.ofString "kinds" = Str.ofString "aB") = False := eq_false (by decide +kernel)
@[simp] theorem str_30_26 : (Str.ofString "kinds" = Str.ofString "pow") = False := eq_false (by decide +kernel)
@[simp] theorem str_30_27 : (Str.ofString "kinds" = Str.ofString "All") = False := eq_false (by decide +kernel)
@[simp] theorem str_30_28 : (Str.ofString "kinds" = Str.ofString "join") = False := eq_false (by decide +kernel)
@[simp] theorem str_30_29 : (Str.ofString "kinds" = Str.ofString "count") = False := eq_false (by decide +kernel)
@[simp] theorem str_30_31 : (Str.ofString "kinds" = Str.ofString "sum") = False := eq_false (by decide +kernel)
@[simp] theorem str_30_32 : (Str.ofString "kinds" = Str.ofString "mean") = False := eq_false (by decide +kernel)
@[simp] theorem str_31_0 : (Str.ofString "sum" = Str.ofString "num") = False := eq_false (by decide +kernel)
@[simp] theorem str_31_1 : (Str.ofString "sum" = Str.ofString "field") = False := eq_false (by decide +kernel)
@[simp] theorem str_31_2 : (Str.ofString "sum" = Str.ofString "name") = False := eq_false (by decide +kernel)
@[simp] theorem str_31_3 : (Str.ofString "sum" = Str.ofString "a") = False := eq_false (by decide +kernel)
@[simp] theorem str_31_4 : (Str.ofString "sum" = Str.ofString "of") = False := eq_false (by decide +kernel)
@[simp] theorem str_31_5 : (Str.ofString "sum" = Str.ofString "add") = False := eq_false (by decide +kernel)
@[simp] theorem str_31_6 : (Str.ofString "sum" = Str.ofString "zzzzzzzz") = False := eq_false (by decide +kernel)
@[simp] theorem str_31_7 : (Str.ofString "sum" = Str.ofString "all") = False := eq_false (by decide +kernel)
@[simp] theorem str_31_8 : (Str.ofString "sum" = Str.ofString "pick") = False := eq_false (by decide +kernel)
@[simp] theorem str_31_9 : (Str.ofString "sum" = Str.ofString "q") = False := eq_false (by decide +kernel)
@[simp] theorem str_31_10 : (Str.ofString "sum" = Str.ofString "end") = False := eq_false (by decide +kernel)
@[simp] theorem str_31_11 : (Str.ofString "sum" = Str.ofString "not") = False := eq_false (by decide +kernel)
@[simp] theorem str_31_12 : (Str.ofString "sum" = Str.ofString "sub") = False := eq_false (by decide +kernel)
@[simp] theorem str_31_13 : (Str.ofString "sum" = Str.ofString "mul") = False := eq_false (by decide +kernel)
@[simp] theorem str_31_14 : (Str.ofString "sum" = Str.ofString "quo") = False := eq_false (by decide +kernel)
@[simp] theorem str_31_15 : (Str.ofString "sum" = Str.ofString "less") = False := eq_false (by decide +kernel)
@[simp] theorem str_31_16 : (Str.ofString "sum" = Str.ofString "same") = False := eq_false (by decide +kernel)
@[simp] theorem str_31_17 : (Str.ofString "sum" = Str.ofString "both") = False := eq_false (by decide +kernel)
@[simp] theorem str_31_18 : (Str.ofString "sum" = Str.ofString "any") = False := eq_false (by decide +kernel)
@[simp] theorem str_31_19 : (Str.ofString "sum" = Str.ofString "keep") = False := eq_false (by decide +kernel)
@[simp] theorem str_31_20 : (Str.ofString "sum" = Str.ofString "rows") = False := eq_false (by decide +kernel)
@[simp] theorem str_31_21 : (Str.ofString "sum" = Str.ofString "unlike") = False := eq_false (by decide +kernel)
@[simp] theorem str_31_22 : (Str.ofString "sum" = Str.ofString "cap") = False := eq_false (by decide +kernel)
@[simp] theorem str_31_23 : (Str.ofString "sum" = Str.ofString "match") = False := eq_false (by decide +kernel)
@[simp] theorem str_31_24 : (Str.ofString "sum" = Str.ofString "") = False := eq_false (by decide +kernel)
@[simp] theorem str_31_25 : (Str.ofString "sum" = Str.ofString "aB") = False := eq_false (by decide +kernel)
@[simp] theorem str_31_26 : (Str.ofString "sum" = Str.ofString "pow") = False := eq_false (by decide +kernel)
@[simp] theorem str_31_27 : (Str.ofString "sum" = Str.ofString "All") = False := eq_false (by decide +kernel)
@[simp] theorem str_31_28 : (Str.ofString "sum" = Str.ofString "join") = False := eq_false (by decide +kernel)
@[simp] theorem str_31_29 : (Str.ofString "sum" = Str.ofString "count") = False := eq_false (by decide +kernel)
@[simp] theorem str_31_30 : (Str.ofString "sum" = Str.ofString "kinds") = False := eq_false (by decide +kernel)
@[simp] theorem str_31_32 : (Str.ofString "sum" = Str.ofString "mean") = False := eq_false (by decide +kernel)
@[simp] theorem str_32_0 : (Str.ofString "mean" = Str.ofString "num") = False := eq_false (by decide +kernel)
@[simp] theorem str_32_1 : (Str.ofString "mean" = Str.ofString "field") = False := eq_false (by decide +kernel)
@[simp] theorem str_32_2 : (Str.ofString "mean" = Str.ofString "name") = False := eq_false (by decide +kernel)
@[simp] theorem str_32_3 : (Str.ofString "mean" = Str.ofString "a") = False := eq_false (by decide +kernel)
@[simp] theorem str_32_4 : (Str.ofString "mean" = Str.ofString "of") = False := eq_false (by decide +kernel)
@[simp] theorem str_32_5 : (Str.ofString "mean" = Str.ofString "add") = False := eq_false (by decide +kernel)
@[simp] theorem str_32_6 : (Str.ofString "mean" = Str.ofString "zzzzzzzz") = False := eq_false (by decide +kernel)
@[simp] theorem str_32_7 : (Str.ofString "mean" = Str.ofString "all") = False := eq_false (by decide +kernel)
@[simp] theorem str_32_8 : (Str.ofString "mean" = Str.ofString "pick") = False := eq_false (by decide +kernel)
@[simp] theorem str_32_9 : (Str.ofString "mean" = Str.ofString "q") = False := eq_false (by decide +kernel)
@[simp] theorem str_32_10 : (Str.ofString "mean" = Str.ofString "end") = False := eq_false (by decide +kernel)
@[simp] theorem str_32_11 : (Str.ofString "mean" = Str.ofString "not") = False := eq_false (by decide +kernel)
@[simp] theorem str_32_12 : (Str.ofString "mean" = Str.ofString "sub") = False := eq_false (by decide +kernel)
@[simp] theorem str_32_13 : (Str.ofString "mean" = Str.ofString "mul") = False := eq_false (by decide +kernel)
@[simp] theorem str_32_14 : (Str.ofString "mean" = Str.ofString "quo") = False := eq_false (by decide +kernel)
@[simp] theorem str_32_15 : (Str.ofString "mean" = Str.ofString "less") = False := eq_false (by decide +kernel)
@[simp] theorem str_32_16 : (Str.ofString "mean" = Str.ofString "same") = False := eq_false (by decide +kernel)
@[simp] theorem str_32_17 : (Str.ofString "mean" = Str.ofString "both") = False := eq_false (by decide +kernel)
@[simp] theorem str_32_18 : (Str.ofString "mean" = Str.ofString "any") = False := eq_false (by decide +kernel)
@[simp] theorem str_32_19 : (Str.ofString "mean" = Str.ofString "keep") = False := eq_false (by decide +kernel)
@[simp] theorem str_32_20 : (Str.ofString "mean" = Str.ofString "rows") = False := eq_false (by decide +kernel)
@[simp] theorem str_32_21 : (Str.ofString "mean" = Str.ofString "unlike") = False := eq_false (by decide +kernel)
@[simp] theorem str_32_22 : (Str.ofString "mean" = Str.ofString "cap") = False := eq_false (by decide +kernel)
@[simp] theorem str_32_23 : (Str.ofString "mean" = Str.ofString "match") = False := eq_false (by decide +kernel)
@[simp] theorem str_32_24 : (Str.ofString "mean" = Str.ofString "") = False := eq_false (by decide +kernel)
@[simp] theorem str_32_25 : (Str.ofString "mean" = Str.ofString "aB") = False := eq_false (by decide +kernel)
@[simp] theorem str_32_26 : (Str.ofString "mean" = Str.ofString "pow") = False := eq_false (by decide +kernel)
@[simp] theorem str_32_27 : (Str.ofString "mean" = Str.ofString "All") = False := eq_false (by decide +kernel)
@[simp] theorem str_32_28 : (Str.ofString "mean" = Str.ofString "join") = False := eq_false (by decide +kernel)
@[simp] theorem str_32_29 : (Str.ofString "mean" = Str.ofString "count") = False := eq_false (by decide +kernel)
@[simp] theorem str_32_30 : (Str.ofString "mean" = Str.ofString "kinds") = False := eq_false (by decide +kernel)
@[simp] theorem str_32_31 : (Str.ofString "mean" = Str.ofString "sum") = False := eq_false (by decide +kernel)
-- LIBS 
noncomputable def t_l_leaf_by (cell : Int) : Res D :=
  if (cell % (4 : Int)) = (0 : Int) then
  Res.ok ((fPr (fCons D.str (fOne D.int))) (("field" : Str), ((cell / (4 : Int)) % (4 : Int))))
else
  if (cell % (4 : Int)) = (1 : Int) then
  (getL [("a" : Str), ("of" : Str), ("add" : Str), ("zzzzzzzz" : Str), ("all" : Str), ("pick" : Str), ("q" : Str), ("end" : Str)] ((cell / (4 : Int)) % (8 : Int))).bind fun word1 =>
  Res.ok ((fPr (fCons D.str (fOne D.str))) (("name" : Str), word1))
else
  if (cell % (4 : Int)) = (2 : Int) then
  ((((((mulR (2 : Int) (10 ^ 18 : Int)).bind fun a2 => .ok (a2 + (1 : Int))).bind fun b5 => (modR (cell / (4 : Int)) b5)).bind fun a6 => .ok (a6 - (10 ^ 18 : Int))).bind fun b9 => .ok (("num" : Str), b9)).bind fun z => .ok ((fPr (fCons D.str (fOne D.int))) z))
else
  (((getL [(10 ^ 18 : Int), (-(10 ^ 18 : Int)), (0 : Int), (-(1 : Int)), (7 : Int)] ((cell / (4 : Int)) % (5 : Int))).bind fun b11 => .ok (("num" : Str), b11)).bind fun z => .ok ((fPr (fCons D.str (fOne D.int))) z))
theorem r_l_leaf_by : CallR F_l_leaf_by (q1 eI) (fun (a : Int) => t_l_leaf_by a) eD := by
  rintro cell _ ⟨d0, rfl, h0⟩
  refine r_def (n := 1) (m := 3) (k := 2) (ρ := ([some (sh eI cell)] : KEnv)) (LeA.cons h0 LeA.nil) rfl ?_
  exact (j_go (g_set (al := []) (v_opp (o_modL _ (by decide)) (v_s (E := eI) (a := cell) (i := 0) rfl) (vN 4))) (j_ifsP (al := []) (b_test (v_opp ((o_eq (EqE.int _)) _ _) (v_s (E := eI) (a := (cell % (4 : Int))) (i := 1) rfl) (vN 0))) (j_assoc (j_retT (v_castF (f := (fPr (fCons D.str (fOne D.int)))) (Fun.pr (FunQ.c Fun.str (FunQ.one Fun.int))) (v_tupQ (vq_cp (v_c (E := eS) (a := ("field" : Str)) rfl) (vq_1 (v_opp (o_modL _ (by decide)) (v_opp (o_divL _ (by decide) (by decide)) (v_s (E := eI) (a := cell) (i := 0) rfl) (vN 4)) (vN 4)))))))) (j_skip (j_ifsP (al := []) (b_test (v_opp ((o_eq (EqE.int _)) _ _) (v_s (E := eI) (a := (cell % (4 : Int))) (i := 1) rfl) (vN 1))) (j_assoc (j_do (d_set (al := []) (v_opp (o_ixAL _ _) (v_lst (vl_cp (v_c (E := eS) (a := ("a" : Str)) rfl) (vl_cp (v_c (E := eS) (a := ("of" : Str)) rfl) (vl_cp (v_c (E := eS) (a := ("add" : Str)) rfl) (vl_cp (v_c (E := eS) (a := ("zzzzzzzz" : Str)) rfl) (vl_cp (v_c (E := eS) (a := ("all" : Str)) rfl) (vl_cp (v_c (E := eS) (a := ("pick" : Str)) rfl) (vl_cp (v_c (E := eS) (a := ("q" : Str)) rfl) (vl_cp (v_c (E := eS) (a := ("end" : Str)) rfl) vl_nil))))))))) (v_opp (o_modL _ (by decide)) (v_opp (o_divL _ (by decide) (by decide)) (v_s (E := eI) (a := cell) (i := 0) rfl) (vN 4)) (vN 8)))) (fun word1 => (j_assoc (j_retT (v_castF (f := (fPr (fCons D.str (fOne D.str)))) (Fun.pr (FunQ.c Fun.str (FunQ.one Fun.str))) (v_tupQ (vq_cp (v_c (E := eS) (a := ("name" : Str)) rfl) (vq_1 (v_s (E := eS) (a := word1) (i := 2) rfl)))))))))) (j_skip (j_ifsP (al := []) (b_test (v_opp ((o_eq (EqE.int _)) _ _) (v_s (E := eI) (a := (cell % (4 : Int))) (i := 1) rfl) (vN 2))) (j_assoc (j_retT (v_mapF (f := (fPr (fCons D.str (fOne D.int)))) (Fun.pr (FunQ.c Fun.str (FunQ.one Fun.int))) (v_tupQ (vq_c (v_c (E := eS) (a := ("num" : Str)) rfl) (vq_1 (v_op o_sub (v_op o_mod (v_opp (o_divL _ (by decide) (by decide)) (v_s (E := eI) (a := cell) (i := 0) rfl) (vN 4)) (v_op o_add (v_opp (o_mul _ _) (vN 2) (v_opp (o_powL pow_10_18) (vN 10) (vN 18))) (vN 1))) (v_opp (o_powL pow_10_18) (vN 10) (vN 18))))))))) (j_skip (j_retT (v_mapF (f := (fPr (fCons D.str (fOne D.int)))) (Fun.pr (FunQ.c Fun.str (FunQ.one Fun.int))) (v_tupQ (vq_c (v_c (E := eS) (a := ("num" : Str)) rfl) (vq_1 (v_opp (o_ixAL _ _) (v_lst (vl_cp (v_opp (o_powL pow_10_18) (vN 10) (vN 18)) (vl_cp (v_neg (v_opp (o_powL pow_10_18) (vN 10) (vN 18))) (vl_cp (vN 0) (vl_cp (v_neg (vN 1)) (vl_cp (vN 7) vl_nil)))))) (v_opp (o_modL _ (by decide)) (v_opp (o_divL _ (by decide) (by decide)) (v_s (E := eI) (a := cell) (i := 0) rfl) (vN 4)) (vN 5)))))))))))))))
theorem c_l_leaf_by {ρ : KEnv} {fs : DL.Env → Res (List D)} {x0 : Int} (h : EvR ρ fs (.ok x0) (q1 eI)) : EvR ρ (eCall F_l_leaf_by fs) (t_l_leaf_by x0) eD := v_callp (t := fun a : Int => t_l_leaf_by a) (a := x0) r_l_leaf_by h
theorem m_l_leaf_by {ρ : KEnv} {fs : DL.Env → Res (List D)} {r : Res (Int)} (h : EvR ρ fs r (q1 eI)) : EvR ρ (eCall F_l_leaf_by fs) (r.bind fun a => t_l_leaf_by a) eD := v_call (t := fun a : Int => t_l_leaf_by a) r_l_leaf_by h
noncomputable def t_l_grown (cells : (List Int)) : Res (List D) :=
  (forR cells (([] : List D), ([] : List Int)) (fun cell2 s1 =>
  (getL [(0 : Int), (0 : Int), (0 : Int), (1 : Int), (2 : Int), (2 : Int), (2 : Int), (2 : Int), (2 : Int), (2 : Int), (2 : Int), (2 : Int), (3 : Int)] (cell2 % (13 : Int))).bind fun many3 =>
  ((if many3 = (0 : Int) then .ok true else (if ((s1.1.length : Nat) : Int) < many3 then .ok true else ((maxLR (cutL s1.2 (some (-many3)) none)).bind fun a4 => .ok (decide (a4 = (12 : Int)))))).bind fun z => if z = true then ((t_l_leaf_by (cell2 / (13 : Int))).bind fun a8 => appR s1.1 a8).bind fun stack7 =>
  (appR s1.2 (1 : Int)).bind fun deep9 =>
  Res.ok (stack7, deep9) else (getL [("not" : Str), ("add" : Str), ("sub" : Str), ("mul" : Str), ("quo" : Str), ("less" : Str), ("same" : Str), ("both" : Str), ("any" : Str), ("pick" : Str)] ((cell2 % (13 : Int)) - (3 : Int))).bind fun op10 =>
  (dAdd ((fPr (fOne D.str)) op10) ((fTup (fun d => d)) (cutL s1.1 (some (-many3)) none))).bind fun made11 =>
  ((maxLR (cutL s1.2 (some (-many3)) none)).bind fun b13 => .ok ((1 : Int) + b13)).bind fun least14 =>
  (catR (cutL s1.1 none (some (-many3))) [made11]).bind fun stack15 =>
  (catR (cutL s1.2 none (some (-many3))) [least14]).bind fun deep16 =>
  Res.ok (stack15, deep16) : Res ((List D) × (List Int))).bind fun z6 =>
  Res.ok (z6.1, z6.2)) : Res ((List D) × (List Int))).bind fun s1 =>
  Res.ok s1.1
theorem r_l_grown : CallR F_l_grown (q1 (eL eI)) (fun (a : (List Int)) => t_l_grown a) (eL eD) := by
  rintro cells _ ⟨d0, rfl, h0⟩
  refine r_def (n := 1) (m := 9) (k := 8) (ρ := ([some (sh (eL eI) cells)] : KEnv)) (LeA.cons h0 LeA.nil) rfl ?_
  exact (j_go (g_setF (al := []) (v_lst (vl_nil (E := eD)))) (j_go (g_setF (al := []) (v_lst (vl_nil (E := eI)))) (j_do (d_forP (al := []) (ρs := fun (s1 : ((List D) × (List Int))) => ([some (sh (eL eI) cells), some (ow (eL eD) s1.1), some (ow (eL eI) s1.2), none, none, none, none, none, none] : KEnv)) (ρb := fun cell2 (s1 : ((List D) × (List Int))) => ([some (sh (eL eI) cells), some (ow (eL eD) s1.1), some (ow (eL eI) s1.2), some (sh eI cell2), none, none, none, none, none] : KEnv)) (v_seqL (v_s (E := (eL eI)) (a := cells) (i := 0) rfl)) (Sb.same (Sb.same (Sb.same (Sb.drop (Sb.drop (Sb.drop (Sb.drop (Sb.drop (Sb.drop Sb.nil))))))))) (fun cell2 s1 => (p_nm (i := 3))) (fun cell2 s1 => (j_go (g_set (al := []) (v_opp (o_modL _ (by decide)) (v_s (E := eI) (a := cell2) (i := 3) rfl) (vN 13))) (j_do (d_set (al := []) (v_opp (o_ixAL _ _) (v_lst (vl_cp (vN 0) (vl_cp (vN 0) (vl_cp (vN 0) (vl_cp (vN 1) (vl_cp (vN 2) (vl_cp (vN 2) (vl_cp (vN 2) (vl_cp (vN 2) (vl_cp (vN 2) (vl_cp (vN 2) (vl_cp (vN 2) (vl_cp (vN 2) (vl_cp (vN 3) vl_nil)))))))))))))) (v_s (E := eI) (a := (cell2 % (13 : Int))) (i := 4) rfl))) (fun many3 => (j_do (j_if (P := PN fun (z6 : ((List D) × (List Int))) => ([some (sh (eL eI) cells), some (ow (eL eD) z6.1), some (ow (eL eI) z6.2), some (sh eI cell2), some (sh eI (cell2 % (13 : Int))), some (sh eI many3), none, none, none] : KEnv)) (al := []) (b_orM (b_test (v_opp ((o_eq (EqE.int _)) _ _) (v_s (E := eI) (a := many3) (i := 5) rfl) (vN 0))) (b_orM (b_test (v_opp (o_lt _ _) (v_1p (o_lenL _) (v_o (E := (eL eD)) (a := s1.1) (i := 1) rfl)) (v_s (E := eI) (a := many3) (i := 5) rfl))) (b_test (v_op (o_eq (EqE.int _)) (v_1p (o_maxL _) (v_cutL (v_o (E := (eL eI)) (a := s1.2) (i := 2) rfl) (vo_s (v_neg (v_s (E := eI) (a := many3) (i := 5) rfl))) vo_n)) (vN 12))))) (j_do (d_app (al := []) rfl (c_l_leaf_by (vq_1 (v_opp (o_divL _ (by decide) (by decide)) (v_s (E := eI) (a := cell2) (i := 3) rfl) (vN 13))))) (fun stack7 => (j_do (d_appP (al := []) rfl (vN 1)) (fun deep9 => (j_end (Sb.same (Sb.same (Sb.same (Sb.same (Sb.same (Sb.same (Sb.drop (Sb.drop (Sb.drop Sb.nil)))))))))))))) (j_do (d_set (al := []) (v_opp (o_ixAL _ _) (v_lst (vl_cp (v_c (E := eS) (a := ("not" : Str)) rfl) (vl_cp (v_c (E := eS) (a := ("add" : Str)) rfl) (vl_cp (v_c (E := eS) (a := ("sub" : Str)) rfl) (vl_cp (v_c (E := eS) (a := ("mul" : Str)) rfl) (vl_cp (v_c (E := eS) (a := ("quo" : Str)) rfl) (vl_cp (v_c (E := eS) (a := ("less" : Str)) rfl) (vl_cp (v_c (E := eS) (a := ("same" : Str)) rfl) (vl_cp (v_c (E := eS) (a := ("both" : Str)) rfl) (vl_cp (v_c (E := eS) (a := ("any" : Str)) rfl) (vl_cp (v_c (E := eS) (a := ("pick" : Str)) rfl) vl_nil))))))))))) (v_opp (o_sub _ _) (v_s (E := eI) (a := (cell2 % (13 : Int))) (i := 4) rfl) (vN 3)))) (fun op10 => (j_do (d_set (al := []) (v_opp ((o_raw dAdd) _ _) (v_castF (f := (fPr (fOne D.str))) (Fun.pr (FunQ.one Fun.str)) (v_tupQ (vq_1 (v_s (E := eS) (a := op10) (i := 6) rfl)))) (v_castF (f := (fTup (fun d => d))) (Fun.tup Fun.raw) (v_1p (o_tupL _) (v_cutL (v_o (E := (eL eD)) (a := s1.1) (i := 1) rfl) (vo_s (v_neg (v_s (E := eI) (a := many3) (i := 5) rfl))) vo_n))))) (fun made11 => (j_do (d_set (al := []) (v_op o_add (vN 1) (v_1p (o_maxL _) (v_cutL (v_o (E := (eL eI)) (a := s1.2) (i := 2) rfl) (vo_s (v_neg (v_s (E := eI) (a := many3) (i := 5) rfl))) vo_n)))) (fun least14 => (j_do (d_setF (al := []) (v_opp (o_catF _ _) (v_cutL (v_o (E := (eL eD)) (a := s1.1) (i := 1) rfl) vo_n (vo_s (v_neg (v_s (E := eI) (a := many3) (i := 5) rfl)))) (v_lst (vl_cp (v_s (E := eD) (a := made11) (i := 7) rfl) vl_nil)))) (fun stack15 => (j_do (d_setF (al := []) (v_opp (o_catF _ _) (v_cutL (v_o (E := (eL eI)) (a := s1.2) (i := 2) rfl) vo_n (vo_s (v_neg (v_s (E := eI) (a := many3) (i := 5) rfl)))) (v_lst (vl_cp (v_s (E := eI) (a := least14) (i := 8) rfl) vl_nil)))) (fun deep16 => (j_end (Sb.same (Sb.same (Sb.same (Sb.same (Sb.same (Sb.same (Sb.drop (Sb.drop (Sb.drop Sb.nil))))))))))))))))))))) (fun z6 => (j_endB (Sb.same (Sb.same (Sb.same (Sb.drop (Sb.drop (Sb.drop (Sb.drop (Sb.drop (Sb.drop Sb.nil))))))))))))))))) (fun s1 => (j_retT (v_o (E := (eL eD)) (a := s1.1) (i := 1) rfl))))))
theorem c_l_grown {ρ : KEnv} {fs : DL.Env → Res (List D)} {x0 : (List Int)} (h : EvR ρ fs (.ok x0) (q1 (eL eI))) : EvR ρ (eCall F_l_grown fs) (t_l_grown x0) (eL eD) := v_callp (t := fun a : (List Int) => t_l_grown a) (a := x0) r_l_grown h
theorem m_l_grown {ρ : KEnv} {fs : DL.Env → Res (List D)} {r : Res ((List Int))} (h : EvR ρ fs r (q1 (eL eI))) : EvR ρ (eCall F_l_grown fs) (r.bind fun a => t_l_grown a) (eL eD) := v_call (t := fun a : (List Int) => t_l_grown a) r_l_grown h
noncomputable def t_l_lists_by (cell : Int) (term : D) : Res (List (List D)) :=
  (Res.ok ((1 : Int) + ((cell / (4 : Int)) % (4 : Int)))).bind fun wide1 =>
  ((rng1 ((1 : Int) + (cell % (4 : Int)))).bind fun l11 => forR l11 ([] : List (List D)) (fun k3 s2 =>
  (((((repT [term] wide1).bind fun b5 => (catR [((fPr (fCons D.str (fOne D.int))) (("num" : Str), k3))] b5)).bind fun z => .ok (cutL z none (some wide1))).bind fun a6 => .ok (a6 :: [])).bind fun b9 => (catR s2 b9)).bind fun some_10 =>
  Res.ok some_10) : Res ((List (List D)))).bind fun s2 =>
  Res.ok s2
theorem r_l_lists_by : CallR F_l_lists_by (qC eI (q1 eD)) (fun (a : Int × D) => t_l_lists_by a.1 a.2) (eT (eT eD)) := by
  rintro ⟨cell, term⟩ _ ⟨d0, _, rfl, h0, ⟨d1, rfl, h1⟩⟩
  refine r_def (n := 2) (m := 5) (k := 3) (ρ := ([some (sh eI cell), some (sh eD term)] : KEnv)) (LeA.cons h0 (LeA.cons h1 LeA.nil)) rfl ?_
  exact (j_do (d_set (al := []) (v_opp (o_add _ _) (vN 1) (v_opp (o_modL _ (by decide)) (v_opp (o_divL _ (by decide) (by decide)) (v_s (E := eI) (a := cell) (i := 0) rfl) (vN 4)) (vN 4)))) (fun wide1 => (j_go (g_set (al := []) (v_tupT (vl_nil (E := (eT eD))))) (j_do (d_for (al := []) (ρs := fun (s2 : ((List (List D)))) => ([some (sh eI cell), some (sh eD term), some (sh eI wide1), some (sh (eT (eT eD)) s2), none] : KEnv)) (ρb := fun k3 (s2 : ((List (List D)))) => ([some (sh eI cell), some (sh eD term), some (sh eI wide1), some (sh (eT (eT eD)) s2), some (sh eI k3)] : KEnv)) (v_rng1p (v_opp (o_add _ _) (vN 1) (v_opp (o_modL _ (by decide)) (v_s (E := eI) (a := cell) (i := 0) rfl) (vN 4)))) (Sb.same (Sb.same (Sb.same (Sb.same (Sb.drop Sb.nil))))) (fun k3 s2 => (p_nm (i := 4))) (fun k3 s2 => (j_do (d_set (al := []) (v_op o_catT (v_s (E := (eT (eT eD))) (a := s2) (i := 3) rfl) (v_tupT (vl_c (v_cutT (v_op o_catT (v_tupT (vl_cp (v_castF (f := (fPr (fCons D.str (fOne D.int)))) (Fun.pr (FunQ.c Fun.str (FunQ.one Fun.int))) (v_tupQ (vq_cp (v_c (E := eS) (a := ("num" : Str)) rfl) (vq_1 (v_s (E := eI) (a := k3) (i := 4) rfl))))) vl_nil)) (v_opp (o_repT _ _) (v_tupT (vl_cp (v_s (E := eD) (a := term) (i := 1) rfl) vl_nil)) (v_s (E := eI) (a := wide1) (i := 2) rfl))) vo_n (vo_s (v_s (E := eI) (a := wide1) (i := 2) rfl))) vl_nil)))) (fun some_10 => (j_endB (Sb.same (Sb.same (Sb.same (Sb.same (Sb.drop Sb.nil)))))))))) (fun s2 => (j_retT (v_s (E := (eT (eT eD))) (a := s2) (i := 3) rfl)))))))
theorem c_l_lists_by {ρ : KEnv} {fs : DL.Env → Res (List D)} {x0 : Int} {x1 : D} (h : EvR ρ fs (.ok (x0, x1)) (qC eI (q1 eD))) : EvR ρ (eCall F_l_lists_by fs) (t_l_lists_by x0 x1) (eT (eT eD)) := v_callp (t := fun a : Int × D => t_l_lists_by a.1 a.2) (a := (x0, x1)) r_l_lists_by h
theorem m_l_lists_by {ρ : KEnv} {fs : DL.Env → Res (List D)} {r : Res (Int × D)} (h : EvR ρ fs r (qC eI (q1 eD))) : EvR ρ (eCall F_l_lists_by fs) (r.bind fun a => t_l_lists_by a.1 a.2) (eT (eT eD)) := v_call (t := fun a : Int × D => t_l_lists_by a.1 a.2) r_l_lists_by h
noncomputable def t_l_pairs_by (cell : Int) : Res (List (Int × (List Int))) :=
  (Res.ok ((1 : Int) + ((cell / (9 : Int)) % (4 : Int)))).bind fun wide1 =>
  (Res.ok ([] : List (Int × (List Int)))).bind fun some_2 =>
  ((rng1 (cell % (9 : Int))).bind fun l17 => forR l17 some_2 (fun k4 s3 =>
  ((modR (cell / (36 : Int)) ((10 ^ 18 : Int) + (1 : Int))).bind fun a7 => ((mulR (2 : Int) (k4 % (2 : Int))).bind fun b6 => .ok ((1 : Int) - b6)).bind fun b8 => (mulR a7 b8)).bind fun n9 =>
  ((((divR n9 (k4 + (1 : Int))).bind fun a10 => .ok (a10, (cutL [n9, (10 ^ 18 : Int), (-(10 ^ 18 : Int)), k4] none (some wide1)))).bind fun a12 => .ok (a12 :: [])).bind fun b15 => (catR s3 b15)).bind fun some_16 =>
  Res.ok some_16) : Res ((List (Int × (List Int))))).bind fun s3 =>
  Res.ok s3
theorem r_l_pairs_by : CallR F_l_pairs_by (q1 eI) (fun (a : Int) => t_l_pairs_by a) (eT (eQ (qC eI (q1 eR)))) := by
  rintro cell _ ⟨d0, rfl, h0⟩
  refine r_def (n := 1) (m := 5) (k := 4) (ρ := ([some (sh eI cell)] : KEnv)) (LeA.cons h0 LeA.nil) rfl ?_
  exact (j_do (d_set (al := []) (v_opp (o_add _ _) (vN 1) (v_opp (o_modL _ (by decide)) (v_opp (o_divL _ (by decide) (by decide)) (v_s (E := eI) (a := cell) (i := 0) rfl) (vN 9)) (vN 4)))) (fun wide1 => (j_do (d_set (al := []) (v_tupT (vl_nil (E := (eQ (qC eI (q1 eR))))))) (fun some_2 => (j_do (d_for (al := []) (ρs := fun (s3 : ((List (Int × (List Int))))) => ([some (sh eI cell), some (sh eI wide1), some (sh (eT (eQ (qC eI (q1 eR)))) s3), none, none] : KEnv)) (ρb := fun k4 (s3 : ((List (Int × (List Int))))) => ([some (sh eI cell), some (sh eI wide1), some (sh (eT (eQ (qC eI (q1 eR)))) s3), some (sh eI k4), none] : KEnv)) (v_rng1p (v_opp (o_modL _ (by decide)) (v_s (E := eI) (a := cell) (i := 0) rfl) (vN 9))) (Sb.same (Sb.same (Sb.same (Sb.drop (Sb.drop Sb.nil))))) (fun k4 s3 => (p_nm (i := 3))) (fun k4 s3 => (j_do (d_set (al := []) (v_op o_mul (v_opp (o_mod _ _) (v_opp (o_divL _ (by decide) (by decide)) (v_s (E := eI) (a := cell) (i := 0) rfl) (vN 36)) (v_opp (o_add _ _) (v_opp (o_powL pow_10_18) (vN 10) (vN 18)) (vN 1))) (v_op o_sub (vN 1) (v_opp (o_mul _ _) (vN 2) (v_opp (o_modL _ (by decide)) (v_s (E := eI) (a := k4) (i := 3) rfl) (vN 2)))))) (fun n9 => (j_do (d_set (al := []) (v_op o_catT (v_s (E := (eT (eQ (qC eI (q1 eR))))) (a := s3) (i := 2) rfl) (v_tupT (vl_c (v_tupQ (vq_c (v_opp (o_div _ _) (v_s (E := eI) (a := n9) (i := 4) rfl) (v_opp (o_add _ _) (v_s (E := eI) (a := k4) (i := 3) rfl) (vN 1))) (vq_1 (v_cutR (v_tupR (vl_cp (v_s (E := eI) (a := n9) (i := 4) rfl) (vl_cp (v_opp (o_powL pow_10_18) (vN 10) (vN 18)) (vl_cp (v_neg (v_opp (o_powL pow_10_18) (vN 10) (vN 18))) (vl_cp (v_s (E := eI) (a := k4) (i := 3) rfl) vl_nil))))) vo_n (vo_s (v_s (E := eI) (a := wide1) (i := 1) rfl)))))) vl_nil)))) (fun some_16 => (j_endB (Sb.same (Sb.same (Sb.same (Sb.drop (Sb.drop Sb.nil)))))))))))) (fun s3 => (j_retT (v_s (E := (eT (eQ (qC eI (q1 eR))))) (a := s3) (i := 2) rfl))))))))
theorem c_l_pairs_by {ρ : KEnv} {fs : DL.Env → Res (List D)} {x0 : Int} (h : EvR ρ fs (.ok x0) (q1 eI)) : EvR ρ (eCall F_l_pairs_by fs) (t_l_pairs_by x0) (eT (eQ (qC eI (q1 eR)))) := v_callp (t := fun a : Int => t_l_pairs_by a) (a := x0) r_l_pairs_by h
theorem m_l_pairs_by {ρ : KEnv} {fs : DL.Env → Res (List D)} {r : Res (Int)} (h : EvR ρ fs r (q1 eI)) : EvR ρ (eCall F_l_pairs_by fs) (r.bind fun a => t_l_pairs_by a) (eT (eQ (qC eI (q1 eR)))) := v_call (t := fun a : Int => t_l_pairs_by a) r_l_pairs_by h
noncomputable def t_l_view_grown (cells : (List Int)) (terms : (List D)) : Res (List D) :=
  (Res.ok [((fPr (fOne D.str)) ("all" : Str))]).bind fun made1 =>
  ((rng1 ((cells.length : Nat) : Int)).bind fun l40 => forR l40 (made1, (1 : Int)) (fun k3 s2 =>
  ((getL cells k3).bind fun a4 => .ok (a4 / (7 : Int))).bind fun cell5 =>
  ((modR k3 ((terms.length : Nat) : Int)).bind fun b7 => (getL terms b7)).bind fun term8 =>
  (getL s2.1 (-(1 : Int))).bind fun view9 =>
  ((getL cells k3).bind fun a10 => .ok (a10 % (7 : Int))).bind fun way11 =>
  (if s2.2 = (6 : Int) then (appR s2.1 ((fPr (fOne D.str)) ("all" : Str))).bind fun made13 =>
  Res.ok (made13, (1 : Int)) else (if way11 < (2 : Int) then (putLR s2.1 (-(1 : Int)) ((fPr (fCons D.str (fCons (fun d => d) (fOne (fun d => d))))) (("keep" : Str), term8, view9))).bind fun made15 =>
  Res.ok (made15, s2.2) else (if way11 = (2 : Int) then (((((t_l_lists_by cell5 term8).bind fun a18 => .ok (a18, view9)).bind fun b21 => .ok (("rows" : Str), b21)).bind fun z => .ok ((fPr (fCons D.str (fCons (fTup (fTup (fun d => d))) (fOne (fun d => d))))) z)).bind fun a22 => putLR s2.1 (-(1 : Int)) a22).bind fun made17 =>
  Res.ok (made17, s2.2) else (if way11 = (3 : Int) then (putLR s2.1 (-(1 : Int)) ((fPr (fCons D.str (fOne (fun d => d)))) (("unlike" : Str), view9))).bind fun made25 =>
  Res.ok (made25, s2.2) else (if way11 = (4 : Int) then (putLR s2.1 (-(1 : Int)) ((fPr (fCons D.str (fCons (fun d => d) (fCons D.int (fOne (fun d => d)))))) (("cap" : Str), term8, ((1 : Int) + (cell5 % (40 : Int))), view9))).bind fun made27 =>
  Res.ok (made27, s2.2) else (if way11 = (5 : Int) then (putLR s2.1 (-(1 : Int)) ((fPr (fCons D.str (fCons (fPr (fCons D.str (fOne (fPr (fOne D.str))))) (fOne (fun d => d))))) (("both" : Str), (("unlike" : Str), ("all" : Str)), view9))).bind fun made29 =>
  Res.ok (made29, (max s2.2 (2 : Int))) else (((((t_l_pairs_by cell5).bind fun a31 => .ok (a31, term8, view9)).bind fun b34 => .ok (("match" : Str), b34)).bind fun z => .ok ((fPr (fCons D.str (fCons (fTup (fPr (fCons D.int (fOne ans)))) (fCons (fun d => d) (fOne (fun d => d)))))) z)).bind fun a35 => putLR s2.1 (-(1 : Int)) a35).bind fun made30 =>
  Res.ok (made30, s2.2) : Res ((List D) × Int)).bind fun z28 =>
  Res.ok (z28.1, z28.2) : Res ((List D) × Int)).bind fun z26 =>
  Res.ok (z26.1, z26.2) : Res ((List D) × Int)).bind fun z24 =>
  Res.ok (z24.1, z24.2) : Res ((List D) × Int)).bind fun z16 =>
  Res.ok (z16.1, z16.2) : Res ((List D) × Int)).bind fun z14 =>
  Res.ok (z14.1, z14.2) : Res ((List D) × Int)).bind fun z12 =>
  (((getL z12.1 (-(1 : Int))).bind fun a37 => (rawB (dNe a37 ((fPr (fOne D.str)) ("all" : Str))))).bind fun z => if z = true then Res.ok (z12.2 + (1 : Int)) else Res.ok z12.2 : Res (Int)).bind fun z39 =>
  Res.ok (z12.1, z39)) : Res ((List D) × Int)).bind fun s2 =>
  Res.ok s2.1
theorem r_l_view_grown : CallR F_l_view_grown (qC (eL eI) (q1 (eL eD))) (fun (a : (List Int) × (List D)) => t_l_view_grown a.1 a.2) (eL eD) := by
  rintro ⟨cells, terms⟩ _ ⟨d0, _, rfl, h0, ⟨d1, rfl, h1⟩⟩
  refine r_def (n := 2) (m := 9) (k := 7) (ρ := ([some (sh (eL eI) cells), some (sh (eL eD) terms)] : KEnv)) (LeA.cons h0 (LeA.cons h1 LeA.nil)) rfl ?_
  exact (j_do (d_setF (al := []) (v_lst (vl_cp (v_castF (f := (fPr (fOne D.str))) (Fun.pr (FunQ.one Fun.str)) (v_tupQ (vq_1 (v_c (E := eS) (a := ("all" : Str)) rfl)))) vl_nil))) (fun made1 => (j_go (g_set (al := []) (vN 1)) (j_do (d_for (al := []) (ρs := fun (s2 : ((List D) × Int)) => ([some (sh (eL eI) cells), some (sh (eL eD) terms), some (ow (eL eD) s2.1), some (sh eI s2.2), none, none, none, none, none] : KEnv)) (ρb := fun k3 (s2 : ((List D) × Int)) => ([some (sh (eL eI) cells), some (sh (eL eD) terms), some (ow (eL eD) s2.1), some (sh eI s2.2), some (sh eI k3), none, none, none, none] : KEnv)) (v_rng1p (v_1p (o_lenL _) (v_s (E := (eL eI)) (a := cells) (i := 0) rfl))) (Sb.same (Sb.same (Sb.same (Sb.same (Sb.drop (Sb.drop (Sb.drop (Sb.drop (Sb.drop Sb.nil))))))))) (fun k3 s2 => (p_nm (i := 4))) (fun k3 s2 => (j_do (d_set (al := []) (v_opl (fun a => o_divL a (by decide) (by decide)) (v_opp (o_ixAL _ _) (v_s (E := (eL eI)) (a := cells) (i := 0) rfl) (v_s (E := eI) (a := k3) (i := 4) rfl)) (vN 7))) (fun cell5 => (j_do (d_set (al := []) (v_op o_ixAL (v_s (E := (eL eD)) (a := terms) (i := 1) rfl) (v_opp (o_mod _ _) (v_s (E := eI) (a := k3) (i := 4) rfl) (v_1p (o_lenL _) (v_s (E := (eL eD)) (a := terms) (i := 1) rfl))))) (fun term8 => (j_do (d_set (al := []) (v_opp (o_ixL _ _) (v_o (E := (eL eD)) (a := s2.1) (i := 2) rfl) (v_neg (vN 1)))) (fun view9 => (j_do (d_set (al := []) (v_opl (fun a => o_modL a (by decide)) (v_opp (o_ixAL _ _) (v_s (E := (eL eI)) (a := cells) (i := 0) rfl) (v_s (E := eI) (a := k3) (i := 4) rfl)) (vN 7))) (fun way11 => (j_do (j_ifP (P := PN fun (z12 : ((List D) × Int)) => ([some (sh (eL eI) cells), some (sh (eL eD) terms), some (ow (eL eD) z12.1), some (sh eI z12.2), some (sh eI k3), some (sh eI cell5), some (sh eD term8), some (sh eD view9), some (sh eI way11)] : KEnv)) (al := []) (b_test (v_opp ((o_eq (EqE.int _)) _ _) (v_s (E := eI) (a := s2.2) (i := 3) rfl) (vN 6))) (j_do (d_appP (al := []) rfl (v_castF (f := (fPr (fOne D.str))) (Fun.pr (FunQ.one Fun.str)) (v_tupQ (vq_1 (v_c (E := eS) (a := ("all" : Str)) rfl))))) (fun made13 => (j_go (g_set (al := []) (vN 1)) (j_end (Sb.same (Sb.same (Sb.same (Sb.same (Sb.same (Sb.same (Sb.same (Sb.same (Sb.same Sb.nil))))))))))))) (j_do (j_ifP (P := PN fun (z14 : ((List D) × Int)) => ([some (sh (eL eI) cells), some (sh (eL eD) terms), some (ow (eL eD) z14.1), some (sh eI z14.2), some (sh eI k3), some (sh eI cell5), some (sh eD term8), some (sh eD view9), some (sh eI way11)] : KEnv)) (al := []) (b_test (v_opp (o_lt _ _) (v_s (E := eI) (a := way11) (i := 8) rfl) (vN 2))) (j_do (d_putLP (al := []) rfl (v_neg (vN 1)) (v_castF (f := (fPr (fCons D.str (fCons (fun d => d) (fOne (fun d => d)))))) (Fun.pr (FunQ.c Fun.str (FunQ.c Fun.raw (FunQ.one Fun.raw)))) (v_tupQ (vq_cp (v_c (E := eS) (a := ("keep" : Str)) rfl) (vq_cp (v_s (E := eD) (a := term8) (i := 6) rfl) (vq_1 (v_s (E := eD) (a := view9) (i := 7) rfl))))))) (fun made15 => (j_end (Sb.same (Sb.same (Sb.same (Sb.same (Sb.same (Sb.same (Sb.same (Sb.same (Sb.same Sb.nil)))))))))))) (j_do (j_ifP (P := PN fun (z16 : ((List D) × Int)) => ([some (sh (eL eI) cells), some (sh (eL eD) terms), some (ow (eL eD) z16.1), some (sh eI z16.2), some (sh eI k3), some (sh eI cell5), some (sh eD term8), some (sh eD view9), some (sh eI way11)] : KEnv)) (al := []) (b_test (v_opp ((o_eq (EqE.int _)) _ _) (v_s (E := eI) (a := way11) (i := 8) rfl) (vN 2))) (j_do (d_putL (al := []) rfl (v_neg (vN 1)) (v_mapF (f := (fPr (fCons D.str (fCons (fTup (fTup (fun d => d))) (fOne (fun d => d)))))) (Fun.pr (FunQ.c Fun.str (FunQ.c (Fun.tup (Fun.tup Fun.raw)) (FunQ.one Fun.raw)))) (v_tupQ (vq_c (v_c (E := eS) (a := ("rows" : Str)) rfl) (vq_c (c_l_lists_by (vq_cp (v_s (E := eI) (a := cell5) (i := 5) rfl) (vq_1 (v_s (E := eD) (a := term8) (i := 6) rfl)))) (vq_1 (v_s (E := eD) (a := view9) (i := 7) rfl))))))) (fun made17 => (j_end (Sb.same (Sb.same (Sb.same (Sb.same (Sb.same (Sb.same (Sb.same (Sb.same (Sb.same Sb.nil)))))))))))) (j_do (j_ifP (P := PN fun (z24 : ((List D) × Int)) => ([some (sh (eL eI) cells), some (sh (eL eD) terms), some (ow (eL eD) z24.1), some (sh eI z24.2), some (sh eI k3), some (sh eI cell5), some (sh eD term8), some (sh eD view9), some (sh eI way11)] : KEnv)) (al := []) (b_test (v_opp ((o_eq (EqE.int _)) _ _) (v_s (E := eI) (a := way11) (i := 8) rfl) (vN 3))) (j_do (d_putLP (al := []) rfl (v_neg (vN 1)) (v_castF (f := (fPr (fCons D.str (fOne (fun d => d))))) (Fun.pr (FunQ.c Fun.str (FunQ.one Fun.raw))) (v_tupQ (vq_cp (v_c (E := eS) (a := ("unlike" : Str)) rfl) (vq_1 (v_s (E := eD) (a := view9) (i := 7) rfl)))))) (fun made25 => (j_end (Sb.same (Sb.same (Sb.same (Sb.same (Sb.same (Sb.same (Sb.same (Sb.same (Sb.same Sb.nil)))))))))))) (j_do (j_ifP (P := PN fun (z26 : ((List D) × Int)) => ([some (sh (eL eI) cells), some (sh (eL eD) terms), some (ow (eL eD) z26.1), some (sh eI z26.2), some (sh eI k3), some (sh eI cell5), some (sh eD term8), some (sh eD view9), some (sh eI way11)] : KEnv)) (al := []) (b_test (v_opp ((o_eq (EqE.int _)) _ _) (v_s (E := eI) (a := way11) (i := 8) rfl) (vN 4))) (j_do (d_putLP (al := []) rfl (v_neg (vN 1)) (v_castF (f := (fPr (fCons D.str (fCons (fun d => d) (fCons D.int (fOne (fun d => d))))))) (Fun.pr (FunQ.c Fun.str (FunQ.c Fun.raw (FunQ.c Fun.int (FunQ.one Fun.raw))))) (v_tupQ (vq_cp (v_c (E := eS) (a := ("cap" : Str)) rfl) (vq_cp (v_s (E := eD) (a := term8) (i := 6) rfl) (vq_cp (v_opp (o_add _ _) (vN 1) (v_opp (o_modL _ (by decide)) (v_s (E := eI) (a := cell5) (i := 5) rfl) (vN 40))) (vq_1 (v_s (E := eD) (a := view9) (i := 7) rfl)))))))) (fun made27 => (j_end (Sb.same (Sb.same (Sb.same (Sb.same (Sb.same (Sb.same (Sb.same (Sb.same (Sb.same Sb.nil)))))))))))) (j_do (j_ifP (P := PN fun (z28 : ((List D) × Int)) => ([some (sh (eL eI) cells), some (sh (eL eD) terms), some (ow (eL eD) z28.1), some (sh eI z28.2), some (sh eI k3), some (sh eI cell5), some (sh eD term8), some (sh eD view9), some (sh eI way11)] : KEnv)) (al := []) (b_test (v_opp ((o_eq (EqE.int _)) _ _) (v_s (E := eI) (a := way11) (i := 8) rfl) (vN 5))) (j_do (d_putLP (al := []) rfl (v_neg (vN 1)) (v_castF (f := (fPr (fCons D.str (fCons (fPr (fCons D.str (fOne (fPr (fOne D.str))))) (fOne (fun d => d)))))) (Fun.pr (FunQ.c Fun.str (FunQ.c (Fun.pr (FunQ.c Fun.str (FunQ.one (Fun.pr (FunQ.one Fun.str))))) (FunQ.one Fun.raw)))) (v_tupQ (vq_cp (v_c (E := eS) (a := ("both" : Str)) rfl) (vq_cp (v_tupQ (vq_cp (v_c (E := eS) (a := ("unlike" : Str)) rfl) (vq_1 (v_tupQ (vq_1 (v_c (E := eS) (a := ("all" : Str)) rfl)))))) (vq_1 (v_s (E := eD) (a := view9) (i := 7) rfl))))))) (fun made29 => (j_go (g_set (al := []) (v_opp (o_max _ _) (v_s (E := eI) (a := s2.2) (i := 3) rfl) (vN 2))) (j_end (Sb.same (Sb.same (Sb.same (Sb.same (Sb.same (Sb.same (Sb.same (Sb.same (Sb.same Sb.nil))))))))))))) (j_do (d_putL (al := []) rfl (v_neg (vN 1)) (v_mapF (f := (fPr (fCons D.str (fCons (fTup (fPr (fCons D.int (fOne ans)))) (fCons (fun d => d) (fOne (fun d => d))))))) (Fun.pr (FunQ.c Fun.str (FunQ.c (Fun.tup (Fun.pr (FunQ.c Fun.int (FunQ.one Fun.row)))) (FunQ.c Fun.raw (FunQ.one Fun.raw))))) (v_tupQ (vq_c (v_c (E := eS) (a := ("match" : Str)) rfl) (vq_c (c_l_pairs_by (vq_1 (v_s (E := eI) (a := cell5) (i := 5) rfl))) (vq_cp (v_s (E := eD) (a := term8) (i := 6) rfl) (vq_1 (v_s (E := eD) (a := view9) (i := 7) rfl)))))))) (fun made30 => (j_end (Sb.same (Sb.same (Sb.same (Sb.same (Sb.same (Sb.same (Sb.same (Sb.same (Sb.same Sb.nil))))))))))))) (fun z28 => (j_end (Sb.same (Sb.same (Sb.same (Sb.same (Sb.same (Sb.same (Sb.same (Sb.same (Sb.same Sb.nil))))))))))))) (fun z26 => (j_end (Sb.same (Sb.same (Sb.same (Sb.same (Sb.same (Sb.same (Sb.same (Sb.same (Sb.same Sb.nil))))))))))))) (fun z24 => (j_end (Sb.same (Sb.same (Sb.same (Sb.same (Sb.same (Sb.same (Sb.same (Sb.same (Sb.same Sb.nil))))))))))))) (fun z16 => (j_end (Sb.same (Sb.same (Sb.same (Sb.same (Sb.same (Sb.same (Sb.same (Sb.same (Sb.same Sb.nil))))))))))))) (fun z14 => (j_end (Sb.same (Sb.same (Sb.same (Sb.same (Sb.same (Sb.same (Sb.same (Sb.same (Sb.same Sb.nil))))))))))))) (fun z12 => (j_do (j_if (P := PN fun (z39 : (Int)) => ([some (sh (eL eI) cells), some (sh (eL eD) terms), some (ow (eL eD) z12.1), some (sh eI z39), some (sh eI k3), some (sh eI cell5), some (sh eD term8), some (sh eD view9), some (sh eI way11)] : KEnv)) (al := []) (b_test (v_op (o_rawB dNe) (v_opp (o_ixL _ _) (v_o (E := (eL eD)) (a := z12.1) (i := 2) rfl) (v_neg (vN 1))) (v_castF (f := (fPr (fOne D.str))) (Fun.pr (FunQ.one Fun.str)) (v_tupQ (vq_1 (v_c (E := eS) (a := ("all" : Str)) rfl)))))) (j_go (g_set (al := []) (v_opp (o_add _ _) (v_s (E := eI) (a := z12.2) (i := 3) rfl) (vN 1))) (j_end (Sb.same (Sb.same (Sb.same (Sb.same (Sb.same (Sb.same (Sb.same (Sb.same (Sb.same Sb.nil))))))))))) (j_end (Sb.same (Sb.same (Sb.same (Sb.same (Sb.same (Sb.same (Sb.same (Sb.same (Sb.same Sb.nil))))))))))) (fun z39 => (j_endB (Sb.same (Sb.same (Sb.same (Sb.same (Sb.drop (Sb.drop (Sb.drop (Sb.drop (Sb.drop Sb.nil)))))))))))))))))))))))) (fun s2 => (j_retT (v_o (E := (eL eD)) (a := s2.1) (i := 2) rfl)))))))
theorem c_l_view_grown {ρ : KEnv} {fs : DL.Env → Res (List D)} {x0 : (List Int)} {x1 : (List D)} (h : EvR ρ fs (.ok (x0, x1)) (qC (eL eI) (q1 (eL eD)))) : EvR ρ (eCall F_l_view_grown fs) (t_l_view_grown x0 x1) (eL eD) := v_callp (t := fun a : (List Int) × (List D) => t_l_view_grown a.1 a.2) (a := (x0, x1)) r_l_view_grown h
theorem m_l_view_grown {ρ : KEnv} {fs : DL.Env → Res (List D)} {r : Res ((List Int) × (List D))} (h : EvR ρ fs r (qC (eL eI) (q1 (eL eD)))) : EvR ρ (eCall F_l_view_grown fs) (r.bind fun a => t_l_view_grown a.1 a.2) (eL eD) := v_call (t := fun a : (List Int) × (List D) => t_l_view_grown a.1 a.2) r_l_view_grown h
noncomputable def t_headed (thing : D) : Res Bool :=
  ((rawB (isTup thing)).bind fun z => if z = true then ((((dLen thing).bind D.asI).bind fun a1 => .ok (decide ((0 : Int) < a1))).bind fun z => if z = true then ((dIx thing (D.int (0 : Int))).bind fun a3 => (rawB (isStr a3))) else .ok false) else .ok false)
theorem r_headed : CallR F_headed (q1 eD) (fun (a : D) => t_headed a) eB := by
  rintro thing _ ⟨d0, rfl, h0⟩
  refine r_def (n := 1) (m := 1) (k := 0) (ρ := ([some (sh eD thing)] : KEnv)) (LeA.cons h0 LeA.nil) rfl ?_
  exact (j_retT (v_and (v_1p ((o_raw1B isTup) _) (v_s (E := eD) (a := thing) (i := 0) rfl)) (v_and (v_op o_gt (v_asI (v_1p ((o_raw1 dLen) _) (v_s (E := eD) (a := thing) (i := 0) rfl))) (vN 0)) (v_1 (o_raw1B isStr) (v_opp ((o_raw dIx) _ _) (v_s (E := eD) (a := thing) (i := 0) rfl) (vI 0))))))
theorem c_headed {ρ : KEnv} {fs : DL.Env → Res (List D)} {x0 : D} (h : EvR ρ fs (.ok x0) (q1 eD)) : EvR ρ (eCall F_headed fs) (t_headed x0) eB := v_callp (t := fun a : D => t_headed a) (a := x0) r_headed h
theorem m_headed {ρ : KEnv} {fs : DL.Env → Res (List D)} {r : Res (D)} (h : EvR ρ fs r (q1 eD)) : EvR ρ (eCall F_headed fs) (r.bind fun a => t_headed a) eB := v_call (t := fun a : D => t_headed a) r_headed h
noncomputable def t_is_whole (thing : D) : Res Bool :=
  ((rawB (isInt thing)).bind fun z => if z = true then ((rawB (isBool thing)).bind fun z => .ok (!z)) else .ok false)
theorem r_is_whole : CallR F_is_whole (q1 eD) (fun (a : D) => t_is_whole a) eB := by
  rintro thing _ ⟨d0, rfl, h0⟩
  refine r_def (n := 1) (m := 1) (k := 0) (ρ := ([some (sh eD thing)] : KEnv)) (LeA.cons h0 LeA.nil) rfl ?_
  exact (j_retT (v_and (v_1p ((o_raw1B isInt) _) (v_s (E := eD) (a := thing) (i := 0) rfl)) (v_not (v_1p ((o_raw1B isBool) _) (v_s (E := eD) (a := thing) (i := 0) rfl)))))
theorem c_is_whole {ρ : KEnv} {fs : DL.Env → Res (List D)} {x0 : D} (h : EvR ρ fs (.ok x0) (q1 eD)) : EvR ρ (eCall F_is_whole fs) (t_is_whole x0) eB := v_callp (t := fun a : D => t_is_whole a) (a := x0) r_is_whole h
theorem m_is_whole {ρ : KEnv} {fs : DL.Env → Res (List D)} {r : Res (D)} (h : EvR ρ fs r (q1 eD)) : EvR ρ (eCall F_is_whole fs) (r.bind fun a => t_is_whole a) eB := v_call (t := fun a : D => t_is_whole a) r_is_whole h
noncomputable def t_lies_between (thing : D) (low : Int) (high : Int) : Res Bool :=
  ((t_is_whole thing).bind fun z => if z = true then (((D.asI thing).bind fun b2 => .ok (decide (low ≤ b2))).bind fun z => if z = true then ((D.asI thing).bind fun a3 => .ok (decide (a3 ≤ high))) else .ok false) else .ok false)
theorem r_lies_between : CallR F_lies_between (qC eD (qC eI (q1 eI))) (fun (a : D × Int × Int) => t_lies_between a.1 a.2.1 a.2.2) eB := by
  rintro ⟨thing, low, high⟩ _ ⟨d0, _, rfl, h0, ⟨d1, _, rfl, h1, ⟨d2, rfl, h2⟩⟩⟩
  refine r_def (n := 3) (m := 3) (k := 0) (ρ := ([some (sh eD thing), some (sh eI low), some (sh eI high)] : KEnv)) (LeA.cons h0 (LeA.cons h1 (LeA.cons h2 LeA.nil))) rfl ?_
  exact (j_retT (v_and (c_is_whole (vq_1 (v_s (E := eD) (a := thing) (i := 0) rfl))) (v_chain (v_op o_le (v_s (E := eI) (a := low) (i := 1) rfl) (v_asI (v_s (E := eD) (a := thing) (i := 0) rfl))) (v_op o_le (v_asI (v_s (E := eD) (a := thing) (i := 0) rfl)) (v_s (E := eI) (a := high) (i := 2) rfl)))))
theorem c_lies_between {ρ : KEnv} {fs : DL.Env → Res (List D)} {x0 : D} {x1 : Int} {x2 : Int} (h : EvR ρ fs (.ok (x0, x1, x2)) (qC eD (qC eI (q1 eI)))) : EvR ρ (eCall F_lies_between fs) (t_lies_between x0 x1 x2) eB := v_callp (t := fun a : D × Int × Int => t_lies_between a.1 a.2.1 a.2.2) (a := (x0, x1, x2)) r_lies_between h
theorem m_lies_between {ρ : KEnv} {fs : DL.Env → Res (List D)} {r : Res (D × Int × Int)} (h : EvR ρ fs r (qC eD (qC eI (q1 eI)))) : EvR ρ (eCall F_lies_between fs) (r.bind fun a => t_lies_between a.1 a.2.1 a.2.2) eB := v_call (t := fun a : D × Int × Int => t_lies_between a.1 a.2.1 a.2.2) r_lies_between h
noncomputable def t_is_number (thing : D) : Res Bool :=
  (t_lies_between thing (-(1000000000000000000 : Int)) (1000000000000000000 : Int))
theorem r_is_number : CallR F_is_number (q1 eD) (fun (a : D) => t_is_number a) eB := by
  rintro thing _ ⟨d0, rfl, h0⟩
  refine r_def (n := 1) (m := 1) (k := 0) (ρ := ([some (sh eD thing)] : KEnv)) (LeA.cons h0 LeA.nil) rfl ?_
  exact (j_retT (c_lies_between (vq_cp (v_s (E := eD) (a := thing) (i := 0) rfl) (vq_cp (v_neg (vN 1000000000000000000)) (vq_1 (vN 1000000000000000000))))))
theorem c_is_number {ρ : KEnv} {fs : DL.Env → Res (List D)} {x0 : D} (h : EvR ρ fs (.ok x0) (q1 eD)) : EvR ρ (eCall F_is_number fs) (t_is_number x0) eB := v_callp (t := fun a : D => t_is_number a) (a := x0) r_is_number h
theorem m_is_number {ρ : KEnv} {fs : DL.Env → Res (List D)} {r : Res (D)} (h : EvR ρ fs r (q1 eD)) : EvR ρ (eCall F_is_number fs) (r.bind fun a => t_is_number a) eB := v_call (t := fun a : D => t_is_number a) r_is_number h
noncomputable def t_is_name (thing : D) : Res Bool :=
  (((rawB (isStr thing)).bind fun z => .ok (!z)).bind fun z => if z = true then .ok true else ((((dLen thing).bind D.asI).bind fun a1 => .ok (decide (a1 < (1 : Int)))).bind fun z => if z = true then .ok true else (((dLen thing).bind D.asI).bind fun a3 => .ok (decide ((8 : Int) < a3))))).bind fun z => if z = true then
  Res.ok false
else
  thenX ((D.asAny thing).bind fun l7 => forX l7 () (fun sign6 s5 =>
  (rawB ((dInA true) sign6 (D.str ("abcdefghijklmnopqrstuvwxyz" : Str)))).bind fun z => if z = true then
  Res.ok (.rt false)
else
  Res.ok (.nx ())) : Res (Oc Unit Bool)) (fun v => v) fun s5 =>
  Res.ok true
theorem r_is_name : CallR F_is_name (q1 eD) (fun (a : D) => t_is_name a) eB := by
  rintro thing _ ⟨d0, rfl, h0⟩
  refine r_def (n := 1) (m := 2) (k := 1) (ρ := ([some (sh eD thing)] : KEnv)) (LeA.cons h0 LeA.nil) rfl ?_
  exact (j_ifs (al := []) (b_or (b_not (b_truB (v_1p ((o_raw1B isStr) _) (v_s (E := eD) (a := thing) (i := 0) rfl)))) (b_or (b_test (v_op o_lt (v_asI (v_1p ((o_raw1 dLen) _) (v_s (E := eD) (a := thing) (i := 0) rfl))) (vN 1))) (b_test (v_op o_gt (v_asI (v_1p ((o_raw1 dLen) _) (v_s (E := eD) (a := thing) (i := 0) rfl))) (vN 8))))) (j_assoc (j_retT (v_c (E := eB) (a := false) rfl))) (j_skip (j_xT (d_forX (E' := eB) (al := []) (ρs := fun (s5 : Unit) => ([some (sh eD thing), none] : KEnv)) (ρb := fun sign6 (s5 : Unit) => ([some (sh eD thing), some (sh eD sign6)] : KEnv)) (v_seqA (v_s (E := eD) (a := thing) (i := 0) rfl)) (Sb.same (Sb.drop Sb.nil)) (fun sign6 s5 => (p_nm (i := 1))) (fun sign6 s5 => (j_ifs (al := []) (b_test (v_opp ((o_rawB (dInA true)) _ _) (v_s (E := eD) (a := sign6) (i := 1) rfl) (vT ("abcdefghijklmnopqrstuvwxyz" : Str)))) (j_assoc (j_retL (v_c (E := eB) (a := false) rfl))) (j_skip (j_endL (Sb.same (Sb.drop Sb.nil))))))) (fun s5 => (j_retT (v_c (E := eB) (a := true) rfl))))))
theorem c_is_name {ρ : KEnv} {fs : DL.Env → Res (List D)} {x0 : D} (h : EvR ρ fs (.ok x0) (q1 eD)) : EvR ρ (eCall F_is_name fs) (t_is_name x0) eB := v_callp (t := fun a : D => t_is_name a) (a := x0) r_is_name h
theorem m_is_name {ρ : KEnv} {fs : DL.Env → Res (List D)} {r : Res (D)} (h : EvR ρ fs r (q1 eD)) : EvR ρ (eCall F_is_name fs) (r.bind fun a => t_is_name a) eB := v_call (t := fun a : D => t_is_name a) r_is_name h
noncomputable def tb_term_fits (G : D → Int → Res Bool) (thing : D) (deep : Int) : Res Bool :=
  (if deep = (0 : Int) then .ok true else (((t_headed thing).bind fun z => .ok (!z)).bind fun z => if z = true then .ok true else (((dLen thing).bind D.asI).bind fun a1 => .ok (decide (a1 < (2 : Int)))))).bind fun z => if z = true then
  Res.ok false
else
  (dIx thing (D.int (0 : Int))).bind fun head3 =>
  (rawB (dEq head3 (D.str ("num" : Str)))).bind fun z => if z = true then
  ((((dLen thing).bind D.asI).bind fun a4 => .ok (decide (a4 = (2 : Int)))).bind fun z => if z = true then ((dIx thing (D.int (1 : Int))).bind fun a6 => t_is_number a6) else .ok false)
else
  (rawB (dEq head3 (D.str ("field" : Str)))).bind fun z => if z = true then
  ((((dLen thing).bind D.asI).bind fun a7 => .ok (decide (a7 = (2 : Int)))).bind fun z => if z = true then ((dIx thing (D.int (1 : Int))).bind fun a11 => t_lies_between a11 (0 : Int) (3 : Int)) else .ok false)
else
  (rawB (dEq head3 (D.str ("name" : Str)))).bind fun z => if z = true then
  ((((dLen thing).bind D.asI).bind fun a14 => .ok (decide (a14 = (2 : Int)))).bind fun z => if z = true then ((dIx thing (D.int (1 : Int))).bind fun a16 => t_is_name a16) else .ok false)
else
  ((rawB ((dNotInC k_PARTS) head3)).bind fun z => if z = true then .ok true else (((dLen thing).bind D.asI).bind fun a19 => (((dAtC k_PARTS head3).bind D.asI).bind fun b18 => .ok ((1 : Int) + b18)).bind fun b20 => .ok (decide (a19 ≠ b20)))).bind fun z => if z = true then
  Res.ok false
else
  ((((dCut (some (1 : Int)) none thing).bind D.asItems).bind fun l22 => compR l22 (fun part21 => (G part21 (deep - (1 : Int))))).bind fun a23 => .ok (a23.all fun b => b))
noncomputable def u_term_fits : Nat → D → Int → Res Bool
  | 0 => fun _ _ => .bad
  | j + 1 => tb_term_fits (u_term_fits j)
noncomputable def t_term_fits : D → Int → Res Bool := u_term_fits 14
theorem rb_term_fits {GF : List D → Res D} {G : D → Int → Res Bool} (r_G : CallR GF (qC eD (q1 eI)) (fun (a : D × Int) => G a.1 a.2) eB) : CallR (runDef 2 4 (b_term_fits GF)) (qC eD (q1 eI)) (fun (a : D × Int) => tb_term_fits G a.1 a.2) eB := by
  have c_G : ∀ {ρ : KEnv} {fs : DL.Env → Res (List D)} {x0 : D} {x1 : Int}, EvR ρ fs (.ok (x0, x1)) (qC eD (q1 eI)) → EvR ρ (eCall GF fs) (G x0 x1) eB := fun {ρ fs x0 x1} h => v_callp (t := fun a : D × Int => G a.1 a.2) (a := (x0, x1)) r_G h
  have m_G : ∀ {ρ : KEnv} {fs : DL.Env → Res (List D)} {r : Res (D × Int)}, EvR ρ fs r (qC eD (q1 eI)) → EvR ρ (eCall GF fs) (r.bind fun a => G a.1 a.2) eB := fun h => v_call (t := fun a : D × Int => G a.1 a.2) r_G h
  rintro ⟨thing, deep⟩ _ ⟨d0, _, rfl, h0, ⟨d1, rfl, h1⟩⟩
  refine r_def (n := 2) (m := 4) (k := 2) (ρ := ([some (sh eD thing), some (sh eI deep)] : KEnv)) (LeA.cons h0 (LeA.cons h1 LeA.nil)) rfl ?_
  exact (j_ifs (al := []) (b_orM (b_test (v_opp ((o_eq (EqE.int _)) _ _) (v_s (E := eI) (a := deep) (i := 1) rfl) (vN 0))) (b_or (b_not (b_truB (c_headed (vq_1 (v_s (E := eD) (a := thing) (i := 0) rfl))))) (b_test (v_op o_lt (v_asI (v_1p ((o_raw1 dLen) _) (v_s (E := eD) (a := thing) (i := 0) rfl))) (vN 2))))) (j_assoc (j_retT (v_c (E := eB) (a := false) rfl))) (j_skip (j_do (d_set (al := []) (v_opp ((o_raw dIx) _ _) (v_s (E := eD) (a := thing) (i := 0) rfl) (vI 0))) (fun head3 => (j_ifs (al := []) (b_test (v_opp ((o_rawB dEq) _ _) (v_s (E := eD) (a := head3) (i := 2) rfl) (vT ("num" : Str)))) (j_assoc (j_retT (v_and (v_op (o_eq (EqE.int _)) (v_asI (v_1p ((o_raw1 dLen) _) (v_s (E := eD) (a := thing) (i := 0) rfl))) (vN 2)) (m_is_number (vq_1 (v_opp ((o_raw dIx) _ _) (v_s (E := eD) (a := thing) (i := 0) rfl) (vI 1))))))) (j_skip (j_ifs (al := []) (b_test (v_opp ((o_rawB dEq) _ _) (v_s (E := eD) (a := head3) (i := 2) rfl) (vT ("field" : Str)))) (j_assoc (j_retT (v_and (v_op (o_eq (EqE.int _)) (v_asI (v_1p ((o_raw1 dLen) _) (v_s (E := eD) (a := thing) (i := 0) rfl))) (vN 2)) (v_eqr (r := ((dIx thing (D.int (1 : Int))).bind fun a9 => .ok (a9, (0 : Int), (3 : Int))).bind fun a => t_lies_between a.1 a.2.1 a.2.2) (m_lies_between (vq_c (v_opp ((o_raw dIx) _ _) (v_s (E := eD) (a := thing) (i := 0) rfl) (vI 1)) (vq_cp (vN 0) (vq_1 (vN 3))))) (by first | (simp only [Res.assoc, Res.bind_ok]; done) | (simp only [Res.assoc, Res.bind_ok]; rfl)))))) (j_skip (j_ifs (al := []) (b_test (v_opp ((o_rawB dEq) _ _) (v_s (E := eD) (a := head3) (i := 2) rfl) (vT ("name" : Str)))) (j_assoc (j_retT (v_and (v_op (o_eq (EqE.int _)) (v_asI (v_1p ((o_raw1 dLen) _) (v_s (E := eD) (a := thing) (i := 0) rfl))) (vN 2)) (m_is_name (vq_1 (v_opp ((o_raw dIx) _ _) (v_s (E := eD) (a := thing) (i := 0) rfl) (vI 1))))))) (j_skip (j_ifs (al := []) (b_or (b_testC (v_1p ((o_raw1B (dNotInC k_PARTS)) _) (v_s (E := eD) (a := head3) (i := 2) rfl))) (b_test (v_op (o_ne (EqE.int _)) (v_asI (v_1p ((o_raw1 dLen) _) (v_s (E := eD) (a := thing) (i := 0) rfl))) (v_op o_add (vN 1) (v_asI (v_1p ((o_raw1 (dAtC k_PARTS)) _) (v_s (E := eD) (a := head3) (i := 2) rfl))))))) (j_assoc (j_retT (v_c (E := eB) (a := false) rfl))) (j_skip (j_retT (v_1 o_all (v_comp (ρb := fun part21 => ([some (sh eD thing), some (sh eI deep), some (sh eD head3), some (sh eD part21)] : KEnv)) (v_seqD (v_cutD (v_s (E := eD) (a := thing) (i := 0) rfl) (vo_s (vN 1)) vo_n)) (fun part21 => (p_nm (i := 3))) (fun part21 => (c_G (vq_cp (v_s (E := eD) (a := part21) (i := 3) rfl) (vq_1 (v_opp (o_sub _ _) (v_s (E := eI) (a := deep) (i := 1) rfl) (vN 1)))))))))))))))))))))
theorem ru_term_fits : ∀ j, CallR (R_term_fits j) (qC eD (q1 eI)) (fun (a : D × Int) => u_term_fits j a.1 a.2) eB
  | 0 => fun _ _ _ => trivial
  | j + 1 => rb_term_fits (ru_term_fits j)
theorem r_term_fits : CallR F_term_fits (qC eD (q1 eI)) (fun (a : D × Int) => t_term_fits a.1 a.2) eB := ru_term_fits _
theorem c_term_fits {ρ : KEnv} {fs : DL.Env → Res (List D)} {x0 : D} {x1 : Int} (h : EvR ρ fs (.ok (x0, x1)) (qC eD (q1 eI))) : EvR ρ (eCall F_term_fits fs) (t_term_fits x0 x1) eB := v_callp (t := fun a : D × Int => t_term_fits a.1 a.2) (a := (x0, x1)) r_term_fits h
theorem m_term_fits {ρ : KEnv} {fs : DL.Env → Res (List D)} {r : Res (D × Int)} (h : EvR ρ fs r (qC eD (q1 eI))) : EvR ρ (eCall F_term_fits fs) (r.bind fun a => t_term_fits a.1 a.2) eB := v_call (t := fun a : D × Int => t_term_fits a.1 a.2) r_term_fits h
noncomputable def t_is_term (thing : D) : Res Bool :=
  (t_term_fits thing (12 : Int))
theorem r_is_term : CallR F_is_term (q1 eD) (fun (a : D) => t_is_term a) eB := by
  rintro thing _ ⟨d0, rfl, h0⟩
  refine r_def (n := 1) (m := 1) (k := 0) (ρ := ([some (sh eD thing)] : KEnv)) (LeA.cons h0 LeA.nil) rfl ?_
  exact (j_retT (c_term_fits (vq_cp (v_s (E := eD) (a := thing) (i := 0) rfl) (vq_1 (vN 12)))))
theorem c_is_term {ρ : KEnv} {fs : DL.Env → Res (List D)} {x0 : D} (h : EvR ρ fs (.ok x0) (q1 eD)) : EvR ρ (eCall F_is_term fs) (t_is_term x0) eB := v_callp (t := fun a : D => t_is_term a) (a := x0) r_is_term h
theorem m_is_term {ρ : KEnv} {fs : DL.Env → Res (List D)} {r : Res (D)} (h : EvR ρ fs r (q1 eD)) : EvR ρ (eCall F_is_term fs) (r.bind fun a => t_is_term a) eB := v_call (t := fun a : D => t_is_term a) r_is_term h
noncomputable def t_are_lists (thing : D) : Res Bool :=
  (((rawB (isTup thing)).bind fun z => .ok (!z)).bind fun z => if z = true then .ok true else ((((dLen thing).bind D.asI).bind fun a1 => .ok (decide (a1 < (1 : Int)))).bind fun z => if z = true then .ok true else (((dLen thing).bind D.asI).bind fun a3 => .ok (decide ((4 : Int) < a3))))).bind fun z => if z = true then
  Res.ok false
else
  thenX ((D.asItems thing).bind fun l17 => forX l17 () (fun some_6 s5 =>
  (((rawB (isTup some_6)).bind fun z => .ok (!z)).bind fun z => if z = true then .ok true else ((((dLen some_6).bind D.asI).bind fun a7 => .ok (decide (a7 < (1 : Int)))).bind fun z => if z = true then .ok true else ((((dLen some_6).bind D.asI).bind fun a9 => .ok (decide ((4 : Int) < a9))).bind fun z => if z = true then .ok true else (((dLen some_6).bind D.asI).bind fun a12 => (((dIx thing (D.int (0 : Int))).bind fun a11 => (dLen a11)).bind D.asI).bind fun b13 => .ok (decide (a12 ≠ b13)))))).bind fun z => if z = true then
  Res.ok (.rt false)
else
  ((((D.asItems some_6).bind fun l15 => compR l15 (fun term14 => (t_is_term term14))).bind fun a16 => .ok (a16.all fun b => b)).bind fun z => .ok (!z)).bind fun z => if z = true then
  Res.ok (.rt false)
else
  Res.ok (.nx ())) : Res (Oc Unit Bool)) (fun v => v) fun s5 =>
  Res.ok true
theorem r_are_lists : CallR F_are_lists (q1 eD) (fun (a : D) => t_are_lists a) eB := by
  rintro thing _ ⟨d0, rfl, h0⟩
  refine r_def (n := 1) (m := 3) (k := 2) (ρ := ([some (sh eD thing)] : KEnv)) (LeA.cons h0 LeA.nil) rfl ?_
  exact (j_ifs (al := []) (b_or (b_not (b_truB (v_1p ((o_raw1B isTup) _) (v_s (E := eD) (a := thing) (i := 0) rfl)))) (b_or (b_test (v_op o_lt (v_asI (v_1p ((o_raw1 dLen) _) (v_s (E := eD) (a := thing) (i := 0) rfl))) (vN 1))) (b_test (v_op o_gt (v_asI (v_1p ((o_raw1 dLen) _) (v_s (E := eD) (a := thing) (i := 0) rfl))) (vN 4))))) (j_assoc (j_retT (v_c (E := eB) (a := false) rfl))) (j_skip (j_xT (d_forX (E' := eB) (al := []) (ρs := fun (s5 : Unit) => ([some (sh eD thing), none, none] : KEnv)) (ρb := fun some_6 (s5 : Unit) => ([some (sh eD thing), some (sh eD some_6), none] : KEnv)) (v_seqD (v_s (E := eD) (a := thing) (i := 0) rfl)) (Sb.same (Sb.drop (Sb.drop Sb.nil))) (fun some_6 s5 => (p_nm (i := 1))) (fun some_6 s5 => (j_ifs (al := []) (b_or (b_not (b_truB (v_1p ((o_raw1B isTup) _) (v_s (E := eD) (a := some_6) (i := 1) rfl)))) (b_or (b_test (v_op o_lt (v_asI (v_1p ((o_raw1 dLen) _) (v_s (E := eD) (a := some_6) (i := 1) rfl))) (vN 1))) (b_or (b_test (v_op o_gt (v_asI (v_1p ((o_raw1 dLen) _) (v_s (E := eD) (a := some_6) (i := 1) rfl))) (vN 4))) (b_test (v_op (o_ne (EqE.int _)) (v_asI (v_1p ((o_raw1 dLen) _) (v_s (E := eD) (a := some_6) (i := 1) rfl))) (v_asI (v_1 (o_raw1 dLen) (v_opp ((o_raw dIx) _ _) (v_s (E := eD) (a := thing) (i := 0) rfl) (vI 0))))))))) (j_assoc (j_retL (v_c (E := eB) (a := false) rfl))) (j_skip (j_ifs (al := []) (b_not (b_truB (v_1 o_all (v_comp (ρb := fun term14 => ([some (sh eD thing), some (sh eD some_6), some (sh eD term14)] : KEnv)) (v_seqD (v_s (E := eD) (a := some_6) (i := 1) rfl)) (fun term14 => (p_nm (i := 2))) (fun term14 => (c_is_term (vq_1 (v_s (E := eD) (a := term14) (i := 2) rfl)))))))) (j_assoc (j_retL (v_c (E := eB) (a := false) rfl))) (j_skip (j_endL (Sb.same (Sb.drop (Sb.drop Sb.nil)))))))))) (fun s5 => (j_retT (v_c (E := eB) (a := true) rfl))))))
theorem c_are_lists {ρ : KEnv} {fs : DL.Env → Res (List D)} {x0 : D} (h : EvR ρ fs (.ok x0) (q1 eD)) : EvR ρ (eCall F_are_lists fs) (t_are_lists x0) eB := v_callp (t := fun a : D => t_are_lists a) (a := x0) r_are_lists h
theorem m_are_lists {ρ : KEnv} {fs : DL.Env → Res (List D)} {r : Res (D)} (h : EvR ρ fs r (q1 eD)) : EvR ρ (eCall F_are_lists fs) (r.bind fun a => t_are_lists a) eB := v_call (t := fun a : D => t_are_lists a) r_are_lists h
noncomputable def t_is_pair (thing : D) : Res Bool :=
  (((rawB (isTup thing)).bind fun z => .ok (!z)).bind fun z => if z = true then .ok true else ((((dLen thing).bind D.asI).bind fun a1 => .ok (decide (a1 ≠ (2 : Int)))).bind fun z => if z = true then .ok true else (((dIx thing (D.int (0 : Int))).bind fun a3 => t_is_number a3).bind fun z => .ok (!z)))).bind fun z => if z = true then
  Res.ok false
else
  (dIx thing (D.int (1 : Int))).bind fun row4 =>
  ((rawB (isTup row4)).bind fun z => if z = true then (((((dLen row4).bind D.asI).bind fun b6 => .ok (decide ((1 : Int) ≤ b6))).bind fun z => if z = true then (((dLen row4).bind D.asI).bind fun a7 => .ok (decide (a7 ≤ (4 : Int)))) else .ok false).bind fun z => if z = true then (((D.asItems row4).bind fun l10 => compR l10 (fun n9 => (t_is_number n9))).bind fun a11 => .ok (a11.all fun b => b)) else .ok false) else .ok false)
theorem r_is_pair : CallR F_is_pair (q1 eD) (fun (a : D) => t_is_pair a) eB := by
  rintro thing _ ⟨d0, rfl, h0⟩
  refine r_def (n := 1) (m := 3) (k := 2) (ρ := ([some (sh eD thing)] : KEnv)) (LeA.cons h0 LeA.nil) rfl ?_
  exact (j_ifs (al := []) (b_or (b_not (b_truB (v_1p ((o_raw1B isTup) _) (v_s (E := eD) (a := thing) (i := 0) rfl)))) (b_or (b_test (v_op (o_ne (EqE.int _)) (v_asI (v_1p ((o_raw1 dLen) _) (v_s (E := eD) (a := thing) (i := 0) rfl))) (vN 2))) (b_not (b_truB (m_is_number (vq_1 (v_opp ((o_raw dIx) _ _) (v_s (E := eD) (a := thing) (i := 0) rfl) (vI 0)))))))) (j_assoc (j_retT (v_c (E := eB) (a := false) rfl))) (j_skip (j_do (d_set (al := []) (v_opp ((o_raw dIx) _ _) (v_s (E := eD) (a := thing) (i := 0) rfl) (vI 1))) (fun row4 => (j_retT (v_and (v_1p ((o_raw1B isTup) _) (v_s (E := eD) (a := row4) (i := 1) rfl)) (v_and (v_chain (v_op o_le (vN 1) (v_asI (v_1p ((o_raw1 dLen) _) (v_s (E := eD) (a := row4) (i := 1) rfl)))) (v_op o_le (v_asI (v_1p ((o_raw1 dLen) _) (v_s (E := eD) (a := row4) (i := 1) rfl))) (vN 4))) (v_1 o_all (v_comp (ρb := fun n9 => ([some (sh eD thing), some (sh eD row4), some (sh eD n9)] : KEnv)) (v_seqD (v_s (E := eD) (a := row4) (i := 1) rfl)) (fun n9 => (p_nm (i := 2))) (fun n9 => (c_is_number (vq_1 (v_s (E := eD) (a := n9) (i := 2) rfl)))))))))))))
theorem c_is_pair {ρ : KEnv} {fs : DL.Env → Res (List D)} {x0 : D} (h : EvR ρ fs (.ok x0) (q1 eD)) : EvR ρ (eCall F_is_pair fs) (t_is_pair x0) eB := v_callp (t := fun a : D => t_is_pair a) (a := x0) r_is_pair h
theorem m_is_pair {ρ : KEnv} {fs : DL.Env → Res (List D)} {r : Res (D)} (h : EvR ρ fs r (q1 eD)) : EvR ρ (eCall F_is_pair fs) (r.bind fun a => t_is_pair a) eB := v_call (t := fun a : D => t_is_pair a) r_is_pair h
noncomputable def t_are_pairs (thing : D) : Res Bool :=
  (((rawB (isTup thing)).bind fun z => .ok (!z)).bind fun z => if z = true then .ok true else (((dLen thing).bind D.asI).bind fun a1 => .ok (decide ((8 : Int) < a1)))).bind fun z => if z = true then
  Res.ok false
else
  thenX ((D.asItems thing).bind fun l11 => forX l11 () (fun pair4 s3 =>
  (((t_is_pair pair4).bind fun z => .ok (!z)).bind fun z => if z = true then .ok true else ((((dIx pair4 (D.int (1 : Int))).bind fun a5 => (dLen a5)).bind D.asI).bind fun a9 => ((((dIx thing (D.int (0 : Int))).bind fun a6 => (dIx a6 (D.int (1 : Int)))).bind fun a8 => (dLen a8)).bind D.asI).bind fun b10 => .ok (decide (a9 ≠ b10)))).bind fun z => if z = true then
  Res.ok (.rt false)
else
  Res.ok (.nx ())) : Res (Oc Unit Bool)) (fun v => v) fun s3 =>
  Res.ok true
theorem r_are_pairs : CallR F_are_pairs (q1 eD) (fun (a : D) => t_are_pairs a) eB := by
  rintro thing _ ⟨d0, rfl, h0⟩
  refine r_def (n := 1) (m := 2) (k := 1) (ρ := ([some (sh eD thing)] : KEnv)) (LeA.cons h0 LeA.nil) rfl ?_
  exact (j_ifs (al := []) (b_or (b_not (b_truB (v_1p ((o_raw1B isTup) _) (v_s (E := eD) (a := thing) (i := 0) rfl)))) (b_test (v_op o_gt (v_asI (v_1p ((o_raw1 dLen) _) (v_s (E := eD) (a := thing) (i := 0) rfl))) (vN 8)))) (j_assoc (j_retT (v_c (E := eB) (a := false) rfl))) (j_skip (j_xT (d_forX (E' := eB) (al := []) (ρs := fun (s3 : Unit) => ([some (sh eD thing), none] : KEnv)) (ρb := fun pair4 (s3 : Unit) => ([some (sh eD thing), some (sh eD pair4)] : KEnv)) (v_seqD (v_s (E := eD) (a := thing) (i := 0) rfl)) (Sb.same (Sb.drop Sb.nil)) (fun pair4 s3 => (p_nm (i := 1))) (fun pair4 s3 => (j_ifs (al := []) (b_or (b_not (b_truB (c_is_pair (vq_1 (v_s (E := eD) (a := pair4) (i := 1) rfl))))) (b_test (v_op (o_ne (EqE.int _)) (v_asI (v_1 (o_raw1 dLen) (v_opp ((o_raw dIx) _ _) (v_s (E := eD) (a := pair4) (i := 1) rfl) (vI 1)))) (v_asI (v_1 (o_raw1 dLen) (v_op (o_raw dIx) (v_opp ((o_raw dIx) _ _) (v_s (E := eD) (a := thing) (i := 0) rfl) (vI 0)) (vI 1))))))) (j_assoc (j_retL (v_c (E := eB) (a := false) rfl))) (j_skip (j_endL (Sb.same (Sb.drop Sb.nil))))))) (fun s3 => (j_retT (v_c (E := eB) (a := true) rfl))))))
theorem c_are_pairs {ρ : KEnv} {fs : DL.Env → Res (List D)} {x0 : D} (h : EvR ρ fs (.ok x0) (q1 eD)) : EvR ρ (eCall F_are_pairs fs) (t_are_pairs x0) eB := v_callp (t := fun a : D => t_are_pairs a) (a := x0) r_are_pairs h
theorem m_are_pairs {ρ : KEnv} {fs : DL.Env → Res (List D)} {r : Res (D)} (h : EvR ρ fs r (q1 eD)) : EvR ρ (eCall F_are_pairs fs) (r.bind fun a => t_are_pairs a) eB := v_call (t := fun a : D => t_are_pairs a) r_are_pairs h
noncomputable def tb_view_fits (G : D → Int → Res Bool) (thing : D) (deep : Int) : Res Bool :=
  (if deep = (0 : Int) then .ok true else ((t_headed thing).bind fun z => .ok (!z))).bind fun z => if z = true then
  Res.ok false
else
  (dIx thing (D.int (0 : Int))).bind fun head1 =>
  (rawB (dEq head1 (D.str ("all" : Str)))).bind fun z => if z = true then
  (((dLen thing).bind D.asI).bind fun a2 => .ok (decide (a2 = (1 : Int))))
else
  (rawB (dEq head1 (D.str ("keep" : Str)))).bind fun z => if z = true then
  ((((dLen thing).bind D.asI).bind fun a4 => .ok (decide (a4 = (3 : Int)))).bind fun z => if z = true then (((dIx thing (D.int (1 : Int))).bind fun a6 => t_is_term a6).bind fun z => if z = true then ((dIx thing (D.int (2 : Int))).bind fun a9 => G a9 (deep - (1 : Int))) else .ok false) else .ok false)
else
  (rawB (dEq head1 (D.str ("rows" : Str)))).bind fun z => if z = true then
  ((((dLen thing).bind D.asI).bind fun a11 => .ok (decide (a11 = (3 : Int)))).bind fun z => if z = true then (((dIx thing (D.int (1 : Int))).bind fun a13 => t_are_lists a13).bind fun z => if z = true then ((dIx thing (D.int (2 : Int))).bind fun a16 => G a16 (deep - (1 : Int))) else .ok false) else .ok false)
else
  (rawB (dEq head1 (D.str ("unlike" : Str)))).bind fun z => if z = true then
  ((((dLen thing).bind D.asI).bind fun a18 => .ok (decide (a18 = (2 : Int)))).bind fun z => if z = true then ((dIx thing (D.int (1 : Int))).bind fun a22 => G a22 (deep - (1 : Int))) else .ok false)
else
  (rawB (dEq head1 (D.str ("cap" : Str)))).bind fun z => if z = true then
  ((((dLen thing).bind D.asI).bind fun a24 => .ok (decide (a24 = (4 : Int)))).bind fun z => if z = true then (((dIx thing (D.int (1 : Int))).bind fun a26 => t_is_term a26).bind fun z => if z = true then ((dIx thing (D.int (2 : Int))).bind fun a29 => t_lies_between a29 (1 : Int) (40 : Int)) else .ok false) else .ok false).bind fun good32 =>
  (if good32 = true then ((dIx thing (D.int (3 : Int))).bind fun a35 => G a35 (deep - (1 : Int))) else .ok false)
else
  (rawB (dEq head1 (D.str ("both" : Str)))).bind fun z => if z = true then
  ((((dLen thing).bind D.asI).bind fun a37 => .ok (decide (a37 = (3 : Int)))).bind fun z => if z = true then (((dIx thing (D.int (1 : Int))).bind fun a41 => G a41 (deep - (1 : Int))).bind fun z => if z = true then ((dIx thing (D.int (2 : Int))).bind fun a45 => G a45 (deep - (1 : Int))) else .ok false) else .ok false)
else
  ((rawB (dNe head1 (D.str ("match" : Str)))).bind fun z => if z = true then .ok true else (((dLen thing).bind D.asI).bind fun a47 => .ok (decide (a47 ≠ (4 : Int))))).bind fun z => if z = true then
  Res.ok false
else
  (((dIx thing (D.int (1 : Int))).bind fun a49 => t_are_pairs a49).bind fun z => if z = true then (((dIx thing (D.int (2 : Int))).bind fun a50 => t_is_term a50).bind fun z => if z = true then ((dIx thing (D.int (3 : Int))).bind fun a53 => G a53 (deep - (1 : Int))) else .ok false) else .ok false)
noncomputable def u_view_fits : Nat → D → Int → Res Bool
  | 0 => fun _ _ => .bad
  | j + 1 => tb_view_fits (u_view_fits j)
noncomputable def t_view_fits : D → Int → Res Bool := u_view_fits 12
theorem rb_view_fits {GF : List D → Res D} {G : D → Int → Res Bool} (r_G : CallR GF (qC eD (q1 eI)) (fun (a : D × Int) => G a.1 a.2) eB) : CallR (runDef 2 4 (b_view_fits GF)) (qC eD (q1 eI)) (fun (a : D × Int) => tb_view_fits G a.1 a.2) eB := by
  have c_G : ∀ {ρ : KEnv} {fs : DL.Env → Res (List D)} {x0 : D} {x1 : Int}, EvR ρ fs (.ok (x0, x1)) (qC eD (q1 eI)) → EvR ρ (eCall GF fs) (G x0 x1) eB := fun {ρ fs x0 x1} h => v_callp (t := fun a : D × Int => G a.1 a.2) (a := (x0, x1)) r_G h
  have m_G : ∀ {ρ : KEnv} {fs : DL.Env → Res (List D)} {r : Res (D × Int)}, EvR ρ fs r (qC eD (q1 eI)) → EvR ρ (eCall GF fs) (r.bind fun a => G a.1 a.2) eB := fun h => v_call (t := fun a : D × Int => G a.1 a.2) r_G h
  rintro ⟨thing, deep⟩ _ ⟨d0, _, rfl, h0, ⟨d1, rfl, h1⟩⟩
  refine r_def (n := 2) (m := 4) (k := 2) (ρ := ([some (sh eD thing), some (sh eI deep)] : KEnv)) (LeA.cons h0 (LeA.cons h1 LeA.nil)) rfl ?_
  exact (j_ifs (al := []) (b_orM (b_test (v_opp ((o_eq (EqE.int _)) _ _) (v_s (E := eI) (a := deep) (i := 1) rfl) (vN 0))) (b_not (b_truB (c_headed (vq_1 (v_s (E := eD) (a := thing) (i := 0) rfl)))))) (j_assoc (j_retT (v_c (E := eB) (a := false) rfl))) (j_skip (j_do (d_set (al := []) (v_opp ((o_raw dIx) _ _) (v_s (E := eD) (a := thing) (i := 0) rfl) (vI 0))) (fun head1 => (j_ifs (al := []) (b_test (v_opp ((o_rawB dEq) _ _) (v_s (E := eD) (a := head1) (i := 2) rfl) (vT ("all" : Str)))) (j_assoc (j_retT (v_op (o_eq (EqE.int _)) (v_asI (v_1p ((o_raw1 dLen) _) (v_s (E := eD) (a := thing) (i := 0) rfl))) (vN 1)))) (j_skip (j_ifs (al := []) (b_test (v_opp ((o_rawB dEq) _ _) (v_s (E := eD) (a := head1) (i := 2) rfl) (vT ("keep" : Str)))) (j_assoc (j_retT (v_and (v_op (o_eq (EqE.int _)) (v_asI (v_1p ((o_raw1 dLen) _) (v_s (E := eD) (a := thing) (i := 0) rfl))) (vN 3)) (v_and (m_is_term (vq_1 (v_opp ((o_raw dIx) _ _) (v_s (E := eD) (a := thing) (i := 0) rfl) (vI 1)))) (v_eqr (r := ((dIx thing (D.int (2 : Int))).bind fun a7 => .ok (a7, (deep - (1 : Int)))).bind fun a => G a.1 a.2) (m_G (vq_c (v_opp ((o_raw dIx) _ _) (v_s (E := eD) (a := thing) (i := 0) rfl) (vI 2)) (vq_1 (v_opp (o_sub _ _) (v_s (E := eI) (a := deep) (i := 1) rfl) (vN 1))))) (by first | (simp only [Res.assoc, Res.bind_ok]; done) | (simp only [Res.assoc, Res.bind_ok]; rfl))))))) (j_skip (j_ifs (al := []) (b_test (v_opp ((o_rawB dEq) _ _) (v_s (E := eD) (a := head1) (i := 2) rfl) (vT ("rows" : Str)))) (j_assoc (j_retT (v_and (v_op (o_eq (EqE.int _)) (v_asI (v_1p ((o_raw1 dLen) _) (v_s (E := eD) (a := thing) (i := 0) rfl))) (vN 3)) (v_and (m_are_lists (vq_1 (v_opp ((o_raw dIx) _ _) (v_s (E := eD) (a := thing) (i := 0) rfl) (vI 1)))) (v_eqr (r := ((dIx thing (D.int (2 : Int))).bind fun a14 => .ok (a14, (deep - (1 : Int)))).bind fun a => G a.1 a.2) (m_G (vq_c (v_opp ((o_raw dIx) _ _) (v_s (E := eD) (a := thing) (i := 0) rfl) (vI 2)) (vq_1 (v_opp (o_sub _ _) (v_s (E := eI) (a := deep) (i := 1) rfl) (vN 1))))) (by first | (simp only [Res.assoc, Res.bind_ok]; done) | (simp only [Res.assoc, Res.bind_ok]; rfl))))))) (j_skip (j_ifs (al := []) (b_test (v_opp ((o_rawB dEq) _ _) (v_s (E := eD) (a := head1) (i := 2) rfl) (vT ("unlike" : Str)))) (j_assoc (j_retT (v_and (v_op (o_eq (EqE.int _)) (v_asI (v_1p ((o_raw1 dLen) _) (v_s (E := eD) (a := thing) (i := 0) rfl))) (vN 2)) (v_eqr (r := ((dIx thing (D.int (1 : Int))).bind fun a20 => .ok (a20, (deep - (1 : Int)))).bind fun a => G a.1 a.2) (m_G (vq_c (v_opp ((o_raw dIx) _ _) (v_s (E := eD) (a := thing) (i := 0) rfl) (vI 1)) (vq_1 (v_opp (o_sub _ _) (v_s (E := eI) (a := deep) (i := 1) rfl) (vN 1))))) (by first | (simp only [Res.assoc, Res.bind_ok]; done) | (simp only [Res.assoc, Res.bind_ok]; rfl)))))) (j_skip (j_ifs (al := []) (b_test (v_opp ((o_rawB dEq) _ _) (v_s (E := eD) (a := head1) (i := 2) rfl) (vT ("cap" : Str)))) (j_assoc (j_do (d_set (al := []) (v_and (v_op (o_eq (EqE.int _)) (v_asI (v_1p ((o_raw1 dLen) _) (v_s (E := eD) (a := thing) (i := 0) rfl))) (vN 4)) (v_and (m_is_term (vq_1 (v_opp ((o_raw dIx) _ _) (v_s (E := eD) (a := thing) (i := 0) rfl) (vI 1)))) (v_eqr (r := ((dIx thing (D.int (2 : Int))).bind fun a27 => .ok (a27, (1 : Int), (40 : Int))).bind fun a => t_lies_between a.1 a.2.1 a.2.2) (m_lies_between (vq_c (v_opp ((o_raw dIx) _ _) (v_s (E := eD) (a := thing) (i := 0) rfl) (vI 2)) (vq_cp (vN 1) (vq_1 (vN 40))))) (by first | (simp only [Res.assoc, Res.bind_ok]; done) | (simp only [Res.assoc, Res.bind_ok]; rfl)))))) (fun good32 => (j_assoc (j_retT (v_andM (v_P (v_s (E := eB) (a := good32) (i := 3) rfl)) (v_eqr (r := ((dIx thing (D.int (3 : Int))).bind fun a33 => .ok (a33, (deep - (1 : Int)))).bind fun a => G a.1 a.2) (m_G (vq_c (v_opp ((o_raw dIx) _ _) (v_s (E := eD) (a := thing) (i := 0) rfl) (vI 3)) (vq_1 (v_opp (o_sub _ _) (v_s (E := eI) (a := deep) (i := 1) rfl) (vN 1))))) (by first | (simp only [Res.assoc, Res.bind_ok]; done) | (simp only [Res.assoc, Res.bind_ok]; rfl))))))))) (j_skip (j_ifs (al := []) (b_test (v_opp ((o_rawB dEq) _ _) (v_s (E := eD) (a := head1) (i := 2) rfl) (vT ("both" : Str)))) (j_assoc (j_retT (v_and (v_op (o_eq (EqE.int _)) (v_asI (v_1p ((o_raw1 dLen) _) (v_s (E := eD) (a := thing) (i := 0) rfl))) (vN 3)) (v_and (v_eqr (r := ((dIx thing (D.int (1 : Int))).bind fun a39 => .ok (a39, (deep - (1 : Int)))).bind fun a => G a.1 a.2) (m_G (vq_c (v_opp ((o_raw dIx) _ _) (v_s (E := eD) (a := thing) (i := 0) rfl) (vI 1)) (vq_1 (v_opp (o_sub _ _) (v_s (E := eI) (a := deep) (i := 1) rfl) (vN 1))))) (by first | (simp only [Res.assoc, Res.bind_ok]; done) | (simp only [Res.assoc, Res.bind_ok]; rfl))) (v_eqr (r := ((dIx thing (D.int (2 : Int))).bind fun a43 => .ok (a43, (deep - (1 : Int)))).bind fun a => G a.1 a.2) (m_G (vq_c (v_opp ((o_raw dIx) _ _) (v_s (E := eD) (a := thing) (i := 0) rfl) (vI 2)) (vq_1 (v_opp (o_sub _ _) (v_s (E := eI) (a := deep) (i := 1) rfl) (vN 1))))) (by first | (simp only [Res.assoc, Res.bind_ok]; done) | (simp only [Res.assoc, Res.bind_ok]; rfl))))))) (j_skip (j_ifs (al := []) (b_or (b_test (v_opp ((o_rawB dNe) _ _) (v_s (E := eD) (a := head1) (i := 2) rfl) (vT ("match" : Str)))) (b_test (v_op (o_ne (EqE.int _)) (v_asI (v_1p ((o_raw1 dLen) _) (v_s (E := eD) (a := thing) (i := 0) rfl))) (vN 4)))) (j_assoc (j_retT (v_c (E := eB) (a := false) rfl))) (j_skip (j_retT (v_and (m_are_pairs (vq_1 (v_opp ((o_raw dIx) _ _) (v_s (E := eD) (a := thing) (i := 0) rfl) (vI 1)))) (v_and (m_is_term (vq_1 (v_opp ((o_raw dIx) _ _) (v_s (E := eD) (a := thing) (i := 0) rfl) (vI 2)))) (v_eqr (r := ((dIx thing (D.int (3 : Int))).bind fun a51 => .ok (a51, (deep - (1 : Int)))).bind fun a => G a.1 a.2) (m_G (vq_c (v_opp ((o_raw dIx) _ _) (v_s (E := eD) (a := thing) (i := 0) rfl) (vI 3)) (vq_1 (v_opp (o_sub _ _) (v_s (E := eI) (a := deep) (i := 1) rfl) (vN 1))))) (by first | (simp only [Res.assoc, Res.bind_ok]; done) | (simp only [Res.assoc, Res.bind_ok]; rfl))))))))))))))))))))))))
theorem ru_view_fits : ∀ j, CallR (R_view_fits j) (qC eD (q1 eI)) (fun (a : D × Int) => u_view_fits j a.1 a.2) eB
  | 0 => fun _ _ _ => trivial
  | j + 1 => rb_view_fits (ru_view_fits j)
theorem r_view_fits : CallR F_view_fits (qC eD (q1 eI)) (fun (a : D × Int) => t_view_fits a.1 a.2) eB := ru_view_fits _
theorem c_view_fits {ρ : KEnv} {fs : DL.Env → Res (List D)} {x0 : D} {x1 : Int} (h : EvR ρ fs (.ok (x0, x1)) (qC eD (q1 eI))) : EvR ρ (eCall F_view_fits fs) (t_view_fits x0 x1) eB := v_callp (t := fun a : D × Int => t_view_fits a.1 a.2) (a := (x0, x1)) r_view_fits h
theorem m_view_fits {ρ : KEnv} {fs : DL.Env → Res (List D)} {r : Res (D × Int)} (h : EvR ρ fs r (qC eD (q1 eI))) : EvR ρ (eCall F_view_fits fs) (r.bind fun a => t_view_fits a.1 a.2) eB := v_call (t := fun a : D × Int => t_view_fits a.1 a.2) r_view_fits h
noncomputable def t_is_view (thing : D) : Res Bool :=
  (t_view_fits thing (6 : Int))
theorem r_is_view : CallR F_is_view (q1 eD) (fun (a : D) => t_is_view a) eB := by
  rintro thing _ ⟨d0, rfl, h0⟩
  refine r_def (n := 1) (m := 1) (k := 0) (ρ := ([some (sh eD thing)] : KEnv)) (LeA.cons h0 LeA.nil) rfl ?_
  exact (j_retT (c_view_fits (vq_cp (v_s (E := eD) (a := thing) (i := 0) rfl) (vq_1 (vN 6)))))
theorem c_is_view {ρ : KEnv} {fs : DL.Env → Res (List D)} {x0 : D} (h : EvR ρ fs (.ok x0) (q1 eD)) : EvR ρ (eCall F_is_view fs) (t_is_view x0) eB := v_callp (t := fun a : D => t_is_view a) (a := x0) r_is_view h
theorem m_is_view {ρ : KEnv} {fs : DL.Env → Res (List D)} {r : Res (D)} (h : EvR ρ fs r (q1 eD)) : EvR ρ (eCall F_is_view fs) (r.bind fun a => t_is_view a) eB := v_call (t := fun a : D => t_is_view a) r_is_view h
noncomputable def t_l_no_term (cell : Int) (term : D) : Res D :=
  (Res.ok ((fPr (fCons D.str (fOne D.int))) (("num" : Str), (1 : Int)))).bind fun deep1 =>
  ((rng1 (12 : Int)).bind fun l5 => forR l5 deep1 (fun k3 s2 =>
  (Res.ok ((fPr (fCons D.str (fOne (fun d => d)))) (("not" : Str), s2))).bind fun deep4 =>
  Res.ok deep4) : Res (D)).bind fun s2 =>
  (Res.ok [s2, ((fPr (fOne D.str)) ("num" : Str)), ((fPr (fCons D.str (fOne D.int))) (("num" : Str), ((10 ^ 18 : Int) + (1 : Int)))), ((fPr (fCons D.str (fOne D.str))) (("num" : Str), ("a" : Str))), ((fPr (fCons D.str (fOne D.int))) (("field" : Str), (4 : Int))), ((fPr (fCons D.str (fOne D.int))) (("field" : Str), (-(1 : Int)))), ((fPr (fCons D.str (fOne D.str))) (("name" : Str), ("" : Str)))]).bind fun some_6 =>
  (catR some_6 [((fPr (fCons D.str (fOne D.str))) (("name" : Str), ("aB" : Str))), ((fPr (fCons D.str (fOne (fun d => d)))) (("add" : Str), term)), ((fPr (fCons D.str (fCons (fun d => d) (fOne (fun d => d))))) (("pow" : Str), term, term)), (D.str ("num" : Str)), (D.int (7 : Int)), ((fun _ => D.tup []) ()), ((fPr (fOne D.str)) ("not" : Str))]).bind fun some_7 =>
  (getL some_7 (cell % (14 : Int)))
theorem r_l_no_term : CallR F_l_no_term (qC eI (q1 eD)) (fun (a : Int × D) => t_l_no_term a.1 a.2) eD := by
  rintro ⟨cell, term⟩ _ ⟨d0, _, rfl, h0, ⟨d1, rfl, h1⟩⟩
  refine r_def (n := 2) (m := 5) (k := 3) (ρ := ([some (sh eI cell), some (sh eD term)] : KEnv)) (LeA.cons h0 (LeA.cons h1 LeA.nil)) rfl ?_
  exact (j_do (d_set (al := []) (v_castF (f := (fPr (fCons D.str (fOne D.int)))) (Fun.pr (FunQ.c Fun.str (FunQ.one Fun.int))) (v_tupQ (vq_cp (v_c (E := eS) (a := ("num" : Str)) rfl) (vq_1 (vN 1)))))) (fun deep1 => (j_do (d_for (al := []) (ρs := fun (s2 : (D)) => ([some (sh eI cell), some (sh eD term), some (sh eD s2), none, none] : KEnv)) (ρb := fun k3 (s2 : (D)) => ([some (sh eI cell), some (sh eD term), some (sh eD s2), some (sh eI k3), none] : KEnv)) (v_rng1p (vN 12)) (Sb.same (Sb.same (Sb.same (Sb.drop (Sb.drop Sb.nil))))) (fun k3 s2 => (p_nm (i := 3))) (fun k3 s2 => (j_do (d_set (al := []) (v_castF (f := (fPr (fCons D.str (fOne (fun d => d))))) (Fun.pr (FunQ.c Fun.str (FunQ.one Fun.raw))) (v_tupQ (vq_cp (v_c (E := eS) (a := ("not" : Str)) rfl) (vq_1 (v_s (E := eD) (a := s2) (i := 2) rfl)))))) (fun deep4 => (j_endB (Sb.same (Sb.same (Sb.same (Sb.drop (Sb.drop Sb.nil)))))))))) (fun s2 => (j_do (d_set (al := []) (v_lst (vl_cp (v_s (E := eD) (a := s2) (i := 2) rfl) (vl_cp (v_castF (f := (fPr (fOne D.str))) (Fun.pr (FunQ.one Fun.str)) (v_tupQ (vq_1 (v_c (E := eS) (a := ("num" : Str)) rfl)))) (vl_cp (v_castF (f := (fPr (fCons D.str (fOne D.int)))) (Fun.pr (FunQ.c Fun.str (FunQ.one Fun.int))) (v_tupQ (vq_cp (v_c (E := eS) (a := ("num" : Str)) rfl) (vq_1 (v_opp (o_add _ _) (v_opp (o_powL pow_10_18) (vN 10) (vN 18)) (vN 1)))))) (vl_cp (v_castF (f := (fPr (fCons D.str (fOne D.str)))) (Fun.pr (FunQ.c Fun.str (FunQ.one Fun.str))) (v_tupQ (vq_cp (v_c (E := eS) (a := ("num" : Str)) rfl) (vq_1 (v_c (E := eS) (a := ("a" : Str)) rfl))))) (vl_cp (v_castF (f := (fPr (fCons D.str (fOne D.int)))) (Fun.pr (FunQ.c Fun.str (FunQ.one Fun.int))) (v_tupQ (vq_cp (v_c (E := eS) (a := ("field" : Str)) rfl) (vq_1 (vN 4))))) (vl_cp (v_castF (f := (fPr (fCons D.str (fOne D.int)))) (Fun.pr (FunQ.c Fun.str (FunQ.one Fun.int))) (v_tupQ (vq_cp (v_c (E := eS) (a := ("field" : Str)) rfl) (vq_1 (v_neg (vN 1)))))) (vl_cp (v_castF (f := (fPr (fCons D.str (fOne D.str)))) (Fun.pr (FunQ.c Fun.str (FunQ.one Fun.str))) (v_tupQ (vq_cp (v_c (E := eS) (a := ("name" : Str)) rfl) (vq_1 (v_c (E := eS) (a := ("" : Str)) rfl))))) vl_nil))))))))) (fun some_6 => (j_do (d_set (al := []) (v_opp (o_catL _ _) (v_s (E := (eL eD)) (a := some_6) (i := 4) rfl) (v_lst (vl_cp (v_castF (f := (fPr (fCons D.str (fOne D.str)))) (Fun.pr (FunQ.c Fun.str (FunQ.one Fun.str))) (v_tupQ (vq_cp (v_c (E := eS) (a := ("name" : Str)) rfl) (vq_1 (v_c (E := eS) (a := ("aB" : Str)) rfl))))) (vl_cp (v_castF (f := (fPr (fCons D.str (fOne (fun d => d))))) (Fun.pr (FunQ.c Fun.str (FunQ.one Fun.raw))) (v_tupQ (vq_cp (v_c (E := eS) (a := ("add" : Str)) rfl) (vq_1 (v_s (E := eD) (a := term) (i := 1) rfl))))) (vl_cp (v_castF (f := (fPr (fCons D.str (fCons (fun d => d) (fOne (fun d => d)))))) (Fun.pr (FunQ.c Fun.str (FunQ.c Fun.raw (FunQ.one Fun.raw)))) (v_tupQ (vq_cp (v_c (E := eS) (a := ("pow" : Str)) rfl) (vq_cp (v_s (E := eD) (a := term) (i := 1) rfl) (vq_1 (v_s (E := eD) (a := term) (i := 1) rfl)))))) (vl_cp (vT ("num" : Str)) (vl_cp (vI 7) (vl_cp (v_castF (f := (fun _ => D.tup [])) Fun.tup0 (v_tupQ vq_n)) (vl_cp (v_castF (f := (fPr (fOne D.str))) (Fun.pr (FunQ.one Fun.str)) (v_tupQ (vq_1 (v_c (E := eS) (a := ("not" : Str)) rfl)))) vl_nil)))))))))) (fun some_7 => (j_retT (v_opp (o_ixAL _ _) (v_s (E := (eL eD)) (a := some_7) (i := 4) rfl) (v_opp (o_modL _ (by decide)) (v_s (E := eI) (a := cell) (i := 0) rfl) (vN 14))))))))))))
theorem c_l_no_term {ρ : KEnv} {fs : DL.Env → Res (List D)} {x0 : Int} {x1 : D} (h : EvR ρ fs (.ok (x0, x1)) (qC eI (q1 eD))) : EvR ρ (eCall F_l_no_term fs) (t_l_no_term x0 x1) eD := v_callp (t := fun a : Int × D => t_l_no_term a.1 a.2) (a := (x0, x1)) r_l_no_term h
theorem m_l_no_term {ρ : KEnv} {fs : DL.Env → Res (List D)} {r : Res (Int × D)} (h : EvR ρ fs r (qC eI (q1 eD))) : EvR ρ (eCall F_l_no_term fs) (r.bind fun a => t_l_no_term a.1 a.2) eD := v_call (t := fun a : Int × D => t_l_no_term a.1 a.2) r_l_no_term h
noncomputable def t_l_bad_view (cell : Int) (term : D) (view : D) : Res D :=
  (Res.ok ((1 : Int), ((2 : Int), (3 : Int)))).bind fun pair1 =>
  (t_l_no_term (cell / (35 : Int)) term).bind fun bad2 =>
  (Res.ok [((fun _ => D.tup []) ()), ((fPr (fCons D.str (fOne D.int))) (("all" : Str), (1 : Int))), (D.str ("all" : Str)), (D.int (5 : Int)), ((fPr (fCons D.str (fOne (fun d => d)))) (("keep" : Str), term)), ((fPr (fCons D.str (fCons (fun d => d) (fOne (fun d => d))))) (("keep" : Str), view, term)), ((fPr (fCons D.str (fCons (fPr (fOne D.str)) (fOne (fun d => d))))) (("keep" : Str), ("num" : Str), view)), ((fPr (fOne D.str)) ("All" : Str))]).bind fun some_3 =>
  (catR some_3 [((fPr (fCons D.str (fCons ans (fOne (fun d => d))))) (("rows" : Str), ([] : List Int), view)), ((fPr (fCons D.str (fCons (fPr (fOne ans)) (fOne (fun d => d))))) (("rows" : Str), ([] : List Int), view)), ((fPr (fCons D.str (fCons (fPr (fCons (fPr (fOne (fun d => d))) (fOne (fPr (fCons (fun d => d) (fOne (fun d => d))))))) (fOne (fun d => d))))) (("rows" : Str), (term, (term, term)), view))]).bind fun some_4 =>
  ((((((repT [((fPr (fOne (fun d => d))) term)] (5 : Int)).bind fun a5 => .ok (a5, view)).bind fun b8 => .ok (("rows" : Str), b8)).bind fun z => .ok ((fPr (fCons D.str (fCons (fTup (fun d => d)) (fOne (fun d => d))))) z)).bind fun a15 => (((((repT [term] (5 : Int)).bind fun a9 => .ok (a9, view)).bind fun b12 => .ok (("rows" : Str), b12)).bind fun z => .ok ((fPr (fCons D.str (fCons (fPr (fOne (fTup (fun d => d)))) (fOne (fun d => d))))) z)).bind fun a13 => .ok (a13 :: [((fPr (fCons D.str (fCons (fPr (fOne (fun d => d))) (fOne (fun d => d))))) (("rows" : Str), term, view))])).bind fun b16 => .ok (a15 :: b16)).bind fun b18 => (catR some_4 b18)).bind fun some_19 =>
  (catR some_19 [((fPr (fOne D.str)) ("unlike" : Str)), ((fPr (fCons D.str (fCons (fun d => d) (fOne (fun d => d))))) (("unlike" : Str), view, view)), ((fPr (fCons D.str (fCons (fun d => d) (fCons D.int (fOne (fun d => d)))))) (("cap" : Str), term, (0 : Int), view)), ((fPr (fCons D.str (fCons (fun d => d) (fCons D.int (fOne (fun d => d)))))) (("cap" : Str), term, (41 : Int), view))]).bind fun some_20 =>
  (((((((((repT [((fPr (fCons D.int (fOne (fPr (fCons D.int (fOne D.int)))))) pair1)] (9 : Int)).bind fun a21 => .ok (a21, term, view)).bind fun b24 => .ok (("match" : Str), b24)).bind fun z => .ok ((fPr (fCons D.str (fCons (fTup (fun d => d)) (fCons (fun d => d) (fOne (fun d => d)))))) z)).bind fun a25 => .ok (a25 :: [])).bind fun b28 => .ok (((fPr (fCons D.str (fCons (fun d => d) (fOne (fun d => d))))) (("both" : Str), view, term)) :: b28)).bind fun b30 => .ok (((fPr (fCons D.str (fOne (fun d => d)))) (("both" : Str), view)) :: b30)).bind fun b32 => .ok (((fPr (fCons D.str (fCons D.int (fCons (fun d => d) (fOne (fun d => d)))))) (("cap" : Str), (2 : Int), term, view)) :: b32)).bind fun b34 => (catR some_20 b34)).bind fun some_35 =>
  (catR some_35 [((fPr (fCons D.str (fCons (fPr (fCons (fPr (fCons D.int (fOne (fPr (fCons D.int (fOne D.int)))))) (fOne (fPr (fCons D.int (fOne ans)))))) (fCons (fun d => d) (fOne (fun d => d)))))) (("match" : Str), (pair1, ((1 : Int), [(2 : Int)])), term, view)), ((fPr (fCons D.str (fCons (fPr (fOne (fPr (fCons D.int (fOne ans))))) (fCons (fun d => d) (fOne (fun d => d)))))) (("match" : Str), ((1 : Int), ([] : List Int)), term, view))]).bind fun some_36 =>
  (catR some_36 [((fPr (fCons D.str (fCons (fPr (fOne (fPr (fCons D.int (fOne (fPr (fCons D.int (fCons D.int (fCons D.int (fCons D.int (fOne D.int))))))))))) (fCons (fun d => d) (fOne (fun d => d)))))) (("match" : Str), ((1 : Int), ((1 : Int), (2 : Int), (3 : Int), (4 : Int), (5 : Int))), term, view)), ((fPr (fCons D.str (fCons (fPr (fOne (fPr (fCons D.int (fOne ans))))) (fCons (fun d => d) (fOne (fun d => d)))))) (("match" : Str), (((10 ^ 18 : Int) + (1 : Int)), [(1 : Int)]), term, view))]).bind fun some_37 =>
  (catR some_37 [((fPr (fCons D.str (fCons (fPr (fOne (fPr (fCons D.int (fOne ans))))) (fCons (fun d => d) (fOne (fun d => d)))))) (("match" : Str), ((1 : Int), [((-(10 ^ 18 : Int)) - (1 : Int))]), term, view)), ((fPr (fCons D.str (fCons (fPr (fOne (fPr (fCons D.int (fOne (fPr (fCons D.int (fOne D.int)))))))) (fOne (fun d => d))))) (("match" : Str), pair1, view)), ((fPr (fCons D.str (fCons (fun d => d) (fOne (fun d => d))))) (("join" : Str), view, view))]).bind fun some_38 =>
  (catR some_38 [((fPr (fCons D.str (fCons (fPr (fCons D.int (fOne (fPr (fCons D.int (fOne D.int)))))) (fCons (fun d => d) (fOne (fun d => d)))))) (("match" : Str), pair1, term, view)), ((fPr (fCons D.str (fCons (fun d => d) (fCons D.int (fOne (fun d => d)))))) (("cap" : Str), bad2, (3 : Int), view)), ((fPr (fCons D.str (fCons (fPr (fOne (fPr (fCons D.int (fOne (fPr (fCons D.int (fOne D.int)))))))) (fCons (fun d => d) (fOne (fun d => d)))))) (("match" : Str), pair1, bad2, view))]).bind fun some_39 =>
  ((catR some_39 [((fPr (fCons D.str (fCons (fPr (fOne (fPr (fOne (fun d => d))))) (fOne (fun d => d))))) (("rows" : Str), bad2, view)), ((fPr (fCons D.str (fCons (fPr (fOne (fPr (fCons (fun d => d) (fOne (fun d => d)))))) (fOne (fun d => d))))) (("rows" : Str), (term, bad2), view)), ((fPr (fCons D.str (fCons (fun d => d) (fOne (fun d => d))))) (("keep" : Str), bad2, view))]).bind fun a40 => (getL a40 (cell % (35 : Int))))
theorem r_l_bad_view : CallR F_l_bad_view (qC eI (qC eD (q1 eD))) (fun (a : Int × D × D) => t_l_bad_view a.1 a.2.1 a.2.2) eD := by
  rintro ⟨cell, term, view⟩ _ ⟨d0, _, rfl, h0, ⟨d1, _, rfl, h1, ⟨d2, rfl, h2⟩⟩⟩
  refine r_def (n := 3) (m := 6) (k := 3) (ρ := ([some (sh eI cell), some (sh eD term), some (sh eD view)] : KEnv)) (LeA.cons h0 (LeA.cons h1 (LeA.cons h2 LeA.nil))) rfl ?_
  exact (j_do (d_set (al := []) (v_tupQ (vq_cp (vN 1) (vq_1 (v_tupQ (vq_cp (vN 2) (vq_1 (vN 3)))))))) (fun pair1 => (j_do (d_set (al := []) (c_l_no_term (vq_cp (v_opp (o_divL _ (by decide) (by decide)) (v_s (E := eI) (a := cell) (i := 0) rfl) (vN 35)) (vq_1 (v_s (E := eD) (a := term) (i := 1) rfl))))) (fun bad2 => (j_do (d_set (al := []) (v_lst (vl_cp (v_castF (f := (fun _ => D.tup [])) Fun.tup0 (v_tupQ vq_n)) (vl_cp (v_castF (f := (fPr (fCons D.str (fOne D.int)))) (Fun.pr (FunQ.c Fun.str (FunQ.one Fun.int))) (v_tupQ (vq_cp (v_c (E := eS) (a := ("all" : Str)) rfl) (vq_1 (vN 1))))) (vl_cp (vT ("all" : Str)) (vl_cp (vI 5) (vl_cp (v_castF (f := (fPr (fCons D.str (fOne (fun d => d))))) (Fun.pr (FunQ.c Fun.str (FunQ.one Fun.raw))) (v_tupQ (vq_cp (v_c (E := eS) (a := ("keep" : Str)) rfl) (vq_1 (v_s (E := eD) (a := term) (i := 1) rfl))))) (vl_cp (v_castF (f := (fPr (fCons D.str (fCons (fun d => d) (fOne (fun d => d)))))) (Fun.pr (FunQ.c Fun.str (FunQ.c Fun.raw (FunQ.one Fun.raw)))) (v_tupQ (vq_cp (v_c (E := eS) (a := ("keep" : Str)) rfl) (vq_cp (v_s (E := eD) (a := view) (i := 2) rfl) (vq_1 (v_s (E := eD) (a := term) (i := 1) rfl)))))) (vl_cp (v_castF (f := (fPr (fCons D.str (fCons (fPr (fOne D.str)) (fOne (fun d => d)))))) (Fun.pr (FunQ.c Fun.str (FunQ.c (Fun.pr (FunQ.one Fun.str)) (FunQ.one Fun.raw)))) (v_tupQ (vq_cp (v_c (E := eS) (a := ("keep" : Str)) rfl) (vq_cp (v_tupQ (vq_1 (v_c (E := eS) (a := ("num" : Str)) rfl))) (vq_1 (v_s (E := eD) (a := view) (i := 2) rfl)))))) (vl_cp (v_castF (f := (fPr (fOne D.str))) (Fun.pr (FunQ.one Fun.str)) (v_tupQ (vq_1 (v_c (E := eS) (a := ("All" : Str)) rfl)))) vl_nil)))))))))) (fun some_3 => (j_do (d_set (al := []) (v_opp (o_catL _ _) (v_s (E := (eL eD)) (a := some_3) (i := 5) rfl) (v_lst (vl_cp (v_castF (f := (fPr (fCons D.str (fCons ans (fOne (fun d => d)))))) (Fun.pr (FunQ.c Fun.str (FunQ.c Fun.row (FunQ.one Fun.raw)))) (v_tupQ (vq_cp (v_c (E := eS) (a := ("rows" : Str)) rfl) (vq_cp (v_tupR (vl_nil (E := eI))) (vq_1 (v_s (E := eD) (a := view) (i := 2) rfl)))))) (vl_cp (v_castF (f := (fPr (fCons D.str (fCons (fPr (fOne ans)) (fOne (fun d => d)))))) (Fun.pr (FunQ.c Fun.str (FunQ.c (Fun.pr (FunQ.one Fun.row)) (FunQ.one Fun.raw)))) (v_tupQ (vq_cp (v_c (E := eS) (a := ("rows" : Str)) rfl) (vq_cp (v_tupQ (vq_1 (v_tupR (vl_nil (E := eI))))) (vq_1 (v_s (E := eD) (a := view) (i := 2) rfl)))))) (vl_cp (v_castF (f := (fPr (fCons D.str (fCons (fPr (fCons (fPr (fOne (fun d => d))) (fOne (fPr (fCons (fun d => d) (fOne (fun d => d))))))) (fOne (fun d => d)))))) (Fun.pr (FunQ.c Fun.str (FunQ.c (Fun.pr (FunQ.c (Fun.pr (FunQ.one Fun.raw)) (FunQ.one (Fun.pr (FunQ.c Fun.raw (FunQ.one Fun.raw)))))) (FunQ.one Fun.raw)))) (v_tupQ (vq_cp (v_c (E := eS) (a := ("rows" : Str)) rfl) (vq_cp (v_tupQ (vq_cp (v_tupQ (vq_1 (v_s (E := eD) (a := term) (i := 1) rfl))) (vq_1 (v_tupQ (vq_cp (v_s (E := eD) (a := term) (i := 1) rfl) (vq_1 (v_s (E := eD) (a := term) (i := 1) rfl))))))) (vq_1 (v_s (E := eD) (a := view) (i := 2) rfl)))))) vl_nil)))))) (fun some_4 => (j_do (d_set (al := []) (v_op o_catL (v_s (E := (eL eD)) (a := some_4) (i := 5) rfl) (v_lst (vl_c (v_mapF (f := (fPr (fCons D.str (fCons (fTup (fun d => d)) (fOne (fun d => d)))))) (Fun.pr (FunQ.c Fun.str (FunQ.c (Fun.tup Fun.raw) (FunQ.one Fun.raw)))) (v_tupQ (vq_c (v_c (E := eS) (a := ("rows" : Str)) rfl) (vq_c (v_opp (o_repT _ _) (v_tupT (vl_cp (v_castF (f := (fPr (fOne (fun d => d)))) (Fun.pr (FunQ.one Fun.raw)) (v_tupQ (vq_1 (v_s (E := eD) (a := term) (i := 1) rfl)))) vl_nil)) (vN 5)) (vq_1 (v_s (E := eD) (a := view) (i := 2) rfl)))))) (vl_c (v_mapF (f := (fPr (fCons D.str (fCons (fPr (fOne (fTup (fun d => d)))) (fOne (fun d => d)))))) (Fun.pr (FunQ.c Fun.str (FunQ.c (Fun.pr (FunQ.one (Fun.tup Fun.raw))) (FunQ.one Fun.raw)))) (v_tupQ (vq_c (v_c (E := eS) (a := ("rows" : Str)) rfl) (vq_c (v_tupQ (vq_1 (v_opp (o_repT _ _) (v_tupT (vl_cp (v_s (E := eD) (a := term) (i := 1) rfl) vl_nil)) (vN 5)))) (vq_1 (v_s (E := eD) (a := view) (i := 2) rfl)))))) (vl_cp (v_castF (f := (fPr (fCons D.str (fCons (fPr (fOne (fun d => d))) (fOne (fun d => d)))))) (Fun.pr (FunQ.c Fun.str (FunQ.c (Fun.pr (FunQ.one Fun.raw)) (FunQ.one Fun.raw)))) (v_tupQ (vq_cp (v_c (E := eS) (a := ("rows" : Str)) rfl) (vq_cp (v_tupQ (vq_1 (v_s (E := eD) (a := term) (i := 1) rfl))) (vq_1 (v_s (E := eD) (a := view) (i := 2) rfl)))))) vl_nil)))))) (fun some_19 => (j_do (d_set (al := []) (v_opp (o_catL _ _) (v_s (E := (eL eD)) (a := some_19) (i := 5) rfl) (v_lst (vl_cp (v_castF (f := (fPr (fOne D.str))) (Fun.pr (FunQ.one Fun.str)) (v_tupQ (vq_1 (v_c (E := eS) (a := ("unlike" : Str)) rfl)))) (vl_cp (v_castF (f := (fPr (fCons D.str (fCons (fun d => d) (fOne (fun d => d)))))) (Fun.pr (FunQ.c Fun.str (FunQ.c Fun.raw (FunQ.one Fun.raw)))) (v_tupQ (vq_cp (v_c (E := eS) (a := ("unlike" : Str)) rfl) (vq_cp (v_s (E := eD) (a := view) (i := 2) rfl) (vq_1 (v_s (E := eD) (a := view) (i := 2) rfl)))))) (vl_cp (v_castF (f := (fPr (fCons D.str (fCons (fun d => d) (fCons D.int (fOne (fun d => d))))))) (Fun.pr (FunQ.c Fun.str (FunQ.c Fun.raw (FunQ.c Fun.int (FunQ.one Fun.raw))))) (v_tupQ (vq_cp (v_c (E := eS) (a := ("cap" : Str)) rfl) (vq_cp (v_s (E := eD) (a := term) (i := 1) rfl) (vq_cp (vN 0) (vq_1 (v_s (E := eD) (a := view) (i := 2) rfl))))))) (vl_cp (v_castF (f := (fPr (fCons D.str (fCons (fun d => d) (fCons D.int (fOne (fun d => d))))))) (Fun.pr (FunQ.c Fun.str (FunQ.c Fun.raw (FunQ.c Fun.int (FunQ.one Fun.raw))))) (v_tupQ (vq_cp (v_c (E := eS) (a := ("cap" : Str)) rfl) (vq_cp (v_s (E := eD) (a := term) (i := 1) rfl) (vq_cp (vN 41) (vq_1 (v_s (E := eD) (a := view) (i := 2) rfl))))))) vl_nil))))))) (fun some_20 => (j_do (d_set (al := []) (v_op o_catL (v_s (E := (eL eD)) (a := some_20) (i := 5) rfl) (v_lst (vl_c (v_castF (f := (fPr (fCons D.str (fCons D.int (fCons (fun d => d) (fOne (fun d => d))))))) (Fun.pr (FunQ.c Fun.str (FunQ.c Fun.int (FunQ.c Fun.raw (FunQ.one Fun.raw))))) (v_tupQ (vq_cp (v_c (E := eS) (a := ("cap" : Str)) rfl) (vq_cp (vN 2) (vq_cp (v_s (E := eD) (a := term) (i := 1) rfl) (vq_1 (v_s (E := eD) (a := view) (i := 2) rfl))))))) (vl_c (v_castF (f := (fPr (fCons D.str (fOne (fun d => d))))) (Fun.pr (FunQ.c Fun.str (FunQ.one Fun.raw))) (v_tupQ (vq_cp (v_c (E := eS) (a := ("both" : Str)) rfl) (vq_1 (v_s (E := eD) (a := view) (i := 2) rfl))))) (vl_c (v_castF (f := (fPr (fCons D.str (fCons (fun d => d) (fOne (fun d => d)))))) (Fun.pr (FunQ.c Fun.str (FunQ.c Fun.raw (FunQ.one Fun.raw)))) (v_tupQ (vq_cp (v_c (E := eS) (a := ("both" : Str)) rfl) (vq_cp (v_s (E := eD) (a := view) (i := 2) rfl) (vq_1 (v_s (E := eD) (a := term) (i := 1) rfl)))))) (vl_c (v_mapF (f := (fPr (fCons D.str (fCons (fTup (fun d => d)) (fCons (fun d => d) (fOne (fun d => d))))))) (Fun.pr (FunQ.c Fun.str (FunQ.c (Fun.tup Fun.raw) (FunQ.c Fun.raw (FunQ.one Fun.raw))))) (v_tupQ (vq_c (v_c (E := eS) (a := ("match" : Str)) rfl) (vq_c (v_opp (o_repT _ _) (v_tupT (vl_cp (v_castF (f := (fPr (fCons D.int (fOne (fPr (fCons D.int (fOne D.int))))))) (Fun.pr (FunQ.c Fun.int (FunQ.one (Fun.pr (FunQ.c Fun.int (FunQ.one Fun.int)))))) (v_s (E := (eQ (qC eI (q1 (eQ (qC eI (q1 eI))))))) (a := pair1) (i := 3) rfl)) vl_nil)) (vN 9)) (vq_cp (v_s (E := eD) (a := term) (i := 1) rfl) (vq_1 (v_s (E := eD) (a := view) (i := 2) rfl))))))) vl_nil))))))) (fun some_35 => (j_do (d_set (al := []) (v_opp (o_catL _ _) (v_s (E := (eL eD)) (a := some_35) (i := 5) rfl) (v_lst (vl_cp (v_castF (f := (fPr (fCons D.str (fCons (fPr (fCons (fPr (fCons D.int (fOne (fPr (fCons D.int (fOne D.int)))))) (fOne (fPr (fCons D.int (fOne ans)))))) (fCons (fun d => d) (fOne (fun d => d))))))) (Fun.pr (FunQ.c Fun.str (FunQ.c (Fun.pr (FunQ.c (Fun.pr (FunQ.c Fun.int (FunQ.one (Fun.pr (FunQ.c Fun.int (FunQ.one Fun.int)))))) (FunQ.one (Fun.pr (FunQ.c Fun.int (FunQ.one Fun.row)))))) (FunQ.c Fun.raw (FunQ.one Fun.raw))))) (v_tupQ (vq_cp (v_c (E := eS) (a := ("match" : Str)) rfl) (vq_cp (v_tupQ (vq_cp (v_s (E := (eQ (qC eI (q1 (eQ (qC eI (q1 eI))))))) (a := pair1) (i := 3) rfl) (vq_1 (v_tupQ (vq_cp (vN 1) (vq_1 (v_tupR (vl_cp (vN 2) vl_nil)))))))) (vq_cp (v_s (E := eD) (a := term) (i := 1) rfl) (vq_1 (v_s (E := eD) (a := view) (i := 2) rfl))))))) (vl_cp (v_castF (f := (fPr (fCons D.str (fCons (fPr (fOne (fPr (fCons D.int (fOne ans))))) (fCons (fun d => d) (fOne (fun d => d))))))) (Fun.pr (FunQ.c Fun.str (FunQ.c (Fun.pr (FunQ.one (Fun.pr (FunQ.c Fun.int (FunQ.one Fun.row))))) (FunQ.c Fun.raw (FunQ.one Fun.raw))))) (v_tupQ (vq_cp (v_c (E := eS) (a := ("match" : Str)) rfl) (vq_cp (v_tupQ (vq_1 (v_tupQ (vq_cp (vN 1) (vq_1 (v_tupR (vl_nil (E := eI)))))))) (vq_cp (v_s (E := eD) (a := term) (i := 1) rfl) (vq_1 (v_s (E := eD) (a := view) (i := 2) rfl))))))) vl_nil))))) (fun some_36 => (j_do (d_set (al := []) (v_opp (o_catL _ _) (v_s (E := (eL eD)) (a := some_36) (i := 5) rfl) (v_lst (vl_cp (v_castF (f := (fPr (fCons D.str (fCons (fPr (fOne (fPr (fCons D.int (fOne (fPr (fCons D.int (fCons D.int (fCons D.int (fCons D.int (fOne D.int))))))))))) (fCons (fun d => d) (fOne (fun d => d))))))) (Fun.pr (FunQ.c Fun.str (FunQ.c (Fun.pr (FunQ.one (Fun.pr (FunQ.c Fun.int (FunQ.one (Fun.pr (FunQ.c Fun.int (FunQ.c Fun.int (FunQ.c Fun.int (FunQ.c Fun.int (FunQ.one Fun.int))))))))))) (FunQ.c Fun.raw (FunQ.one Fun.raw))))) (v_tupQ (vq_cp (v_c (E := eS) (a := ("match" : Str)) rfl) (vq_cp (v_tupQ (vq_1 (v_tupQ (vq_cp (vN 1) (vq_1 (v_tupQ (vq_cp (vN 1) (vq_cp (vN 2) (vq_cp (vN 3) (vq_cp (vN 4) (vq_1 (vN 5)))))))))))) (vq_cp (v_s (E := eD) (a := term) (i := 1) rfl) (vq_1 (v_s (E := eD) (a := view) (i := 2) rfl))))))) (vl_cp (v_castF (f := (fPr (fCons D.str (fCons (fPr (fOne (fPr (fCons D.int (fOne ans))))) (fCons (fun d => d) (fOne (fun d => d))))))) (Fun.pr (FunQ.c Fun.str (FunQ.c (Fun.pr (FunQ.one (Fun.pr (FunQ.c Fun.int (FunQ.one Fun.row))))) (FunQ.c Fun.raw (FunQ.one Fun.raw))))) (v_tupQ (vq_cp (v_c (E := eS) (a := ("match" : Str)) rfl) (vq_cp (v_tupQ (vq_1 (v_tupQ (vq_cp (v_opp (o_add _ _) (v_opp (o_powL pow_10_18) (vN 10) (vN 18)) (vN 1)) (vq_1 (v_tupR (vl_cp (vN 1) vl_nil))))))) (vq_cp (v_s (E := eD) (a := term) (i := 1) rfl) (vq_1 (v_s (E := eD) (a := view) (i := 2) rfl))))))) vl_nil))))) (fun some_37 => (j_do (d_set (al := []) (v_opp (o_catL _ _) (v_s (E := (eL eD)) (a := some_37) (i := 5) rfl) (v_lst (vl_cp (v_castF (f := (fPr (fCons D.str (fCons (fPr (fOne (fPr (fCons D.int (fOne ans))))) (fCons (fun d => d) (fOne (fun d => d))))))) (Fun.pr (FunQ.c Fun.str (FunQ.c (Fun.pr (FunQ.one (Fun.pr (FunQ.c Fun.int (FunQ.one Fun.row))))) (FunQ.c Fun.raw (FunQ.one Fun.raw))))) (v_tupQ (vq_cp (v_c (E := eS) (a := ("match" : Str)) rfl) (vq_cp (v_tupQ (vq_1 (v_tupQ (vq_cp (vN 1) (vq_1 (v_tupR (vl_cp (v_opp (o_sub _ _) (v_neg (v_opp (o_powL pow_10_18) (vN 10) (vN 18))) (vN 1)) vl_nil))))))) (vq_cp (v_s (E := eD) (a := term) (i := 1) rfl) (vq_1 (v_s (E := eD) (a := view) (i := 2) rfl))))))) (vl_cp (v_castF (f := (fPr (fCons D.str (fCons (fPr (fOne (fPr (fCons D.int (fOne (fPr (fCons D.int (fOne D.int)))))))) (fOne (fun d => d)))))) (Fun.pr (FunQ.c Fun.str (FunQ.c (Fun.pr (FunQ.one (Fun.pr (FunQ.c Fun.int (FunQ.one (Fun.pr (FunQ.c Fun.int (FunQ.one Fun.int)))))))) (FunQ.one Fun.raw)))) (v_tupQ (vq_cp (v_c (E := eS) (a := ("match" : Str)) rfl) (vq_cp (v_tupQ (vq_1 (v_s (E := (eQ (qC eI (q1 (eQ (qC eI (q1 eI))))))) (a := pair1) (i := 3) rfl))) (vq_1 (v_s (E := eD) (a := view) (i := 2) rfl)))))) (vl_cp (v_castF (f := (fPr (fCons D.str (fCons (fun d => d) (fOne (fun d => d)))))) (Fun.pr (FunQ.c Fun.str (FunQ.c Fun.raw (FunQ.one Fun.raw)))) (v_tupQ (vq_cp (v_c (E := eS) (a := ("join" : Str)) rfl) (vq_cp (v_s (E := eD) (a := view) (i := 2) rfl) (vq_1 (v_s (E := eD) (a := view) (i := 2) rfl)))))) vl_nil)))))) (fun some_38 => (j_do (d_set (al := []) (v_opp (o_catL _ _) (v_s (E := (eL eD)) (a := some_38) (i := 5) rfl) (v_lst (vl_cp (v_castF (f := (fPr (fCons D.str (fCons (fPr (fCons D.int (fOne (fPr (fCons D.int (fOne D.int)))))) (fCons (fun d => d) (fOne (fun d => d))))))) (Fun.pr (FunQ.c Fun.str (FunQ.c (Fun.pr (FunQ.c Fun.int (FunQ.one (Fun.pr (FunQ.c Fun.int (FunQ.one Fun.int)))))) (FunQ.c Fun.raw (FunQ.one Fun.raw))))) (v_tupQ (vq_cp (v_c (E := eS) (a := ("match" : Str)) rfl) (vq_cp (v_s (E := (eQ (qC eI (q1 (eQ (qC eI (q1 eI))))))) (a := pair1) (i := 3) rfl) (vq_cp (v_s (E := eD) (a := term) (i := 1) rfl) (vq_1 (v_s (E := eD) (a := view) (i := 2) rfl))))))) (vl_cp (v_castF (f := (fPr (fCons D.str (fCons (fun d => d) (fCons D.int (fOne (fun d => d))))))) (Fun.pr (FunQ.c Fun.str (FunQ.c Fun.raw (FunQ.c Fun.int (FunQ.one Fun.raw))))) (v_tupQ (vq_cp (v_c (E := eS) (a := ("cap" : Str)) rfl) (vq_cp (v_s (E := eD) (a := bad2) (i := 4) rfl) (vq_cp (vN 3) (vq_1 (v_s (E := eD) (a := view) (i := 2) rfl))))))) (vl_cp (v_castF (f := (fPr (fCons D.str (fCons (fPr (fOne (fPr (fCons D.int (fOne (fPr (fCons D.int (fOne D.int)))))))) (fCons (fun d => d) (fOne (fun d => d))))))) (Fun.pr (FunQ.c Fun.str (FunQ.c (Fun.pr (FunQ.one (Fun.pr (FunQ.c Fun.int (FunQ.one (Fun.pr (FunQ.c Fun.int (FunQ.one Fun.int)))))))) (FunQ.c Fun.raw (FunQ.one Fun.raw))))) (v_tupQ (vq_cp (v_c (E := eS) (a := ("match" : Str)) rfl) (vq_cp (v_tupQ (vq_1 (v_s (E := (eQ (qC eI (q1 (eQ (qC eI (q1 eI))))))) (a := pair1) (i := 3) rfl))) (vq_cp (v_s (E := eD) (a := bad2) (i := 4) rfl) (vq_1 (v_s (E := eD) (a := view) (i := 2) rfl))))))) vl_nil)))))) (fun some_39 => (j_retT (v_op o_ixAL (v_opp (o_catL _ _) (v_s (E := (eL eD)) (a := some_39) (i := 5) rfl) (v_lst (vl_cp (v_castF (f := (fPr (fCons D.str (fCons (fPr (fOne (fPr (fOne (fun d => d))))) (fOne (fun d => d)))))) (Fun.pr (FunQ.c Fun.str (FunQ.c (Fun.pr (FunQ.one (Fun.pr (FunQ.one Fun.raw)))) (FunQ.one Fun.raw)))) (v_tupQ (vq_cp (v_c (E := eS) (a := ("rows" : Str)) rfl) (vq_cp (v_tupQ (vq_1 (v_tupQ (vq_1 (v_s (E := eD) (a := bad2) (i := 4) rfl))))) (vq_1 (v_s (E := eD) (a := view) (i := 2) rfl)))))) (vl_cp (v_castF (f := (fPr (fCons D.str (fCons (fPr (fOne (fPr (fCons (fun d => d) (fOne (fun d => d)))))) (fOne (fun d => d)))))) (Fun.pr (FunQ.c Fun.str (FunQ.c (Fun.pr (FunQ.one (Fun.pr (FunQ.c Fun.raw (FunQ.one Fun.raw))))) (FunQ.one Fun.raw)))) (v_tupQ (vq_cp (v_c (E := eS) (a := ("rows" : Str)) rfl) (vq_cp (v_tupQ (vq_1 (v_tupQ (vq_cp (v_s (E := eD) (a := term) (i := 1) rfl) (vq_1 (v_s (E := eD) (a := bad2) (i := 4) rfl)))))) (vq_1 (v_s (E := eD) (a := view) (i := 2) rfl)))))) (vl_cp (v_castF (f := (fPr (fCons D.str (fCons (fun d => d) (fOne (fun d => d)))))) (Fun.pr (FunQ.c Fun.str (FunQ.c Fun.raw (FunQ.one Fun.raw)))) (v_tupQ (vq_cp (v_c (E := eS) (a := ("keep" : Str)) rfl) (vq_cp (v_s (E := eD) (a := bad2) (i := 4) rfl) (vq_1 (v_s (E := eD) (a := view) (i := 2) rfl)))))) vl_nil))))) (v_opp (o_modL _ (by decide)) (v_s (E := eI) (a := cell) (i := 0) rfl) (vN 35))))))))))))))))))))))))))
theorem c_l_bad_view {ρ : KEnv} {fs : DL.Env → Res (List D)} {x0 : Int} {x1 : D} {x2 : D} (h : EvR ρ fs (.ok (x0, x1, x2)) (qC eI (qC eD (q1 eD)))) : EvR ρ (eCall F_l_bad_view fs) (t_l_bad_view x0 x1 x2) eD := v_callp (t := fun a : Int × D × D => t_l_bad_view a.1 a.2.1 a.2.2) (a := (x0, x1, x2)) r_l_bad_view h
theorem m_l_bad_view {ρ : KEnv} {fs : DL.Env → Res (List D)} {r : Res (Int × D × D)} (h : EvR ρ fs r (qC eI (qC eD (q1 eD)))) : EvR ρ (eCall F_l_bad_view fs) (r.bind fun a => t_l_bad_view a.1 a.2.1 a.2.2) eD := v_call (t := fun a : Int × D × D => t_l_bad_view a.1 a.2.1 a.2.2) r_l_bad_view h
noncomputable def tb_l_view_spoiled (G : D → Int → Int → D → Res D) (view : D) (cell : Int) (bad : Int) (term : D) : Res D :=
  (if (cell % (3 : Int)) = (0 : Int) then .ok true else ((dIx view (D.int (0 : Int))).bind fun a1 => (rawB (dEq a1 (D.str ("all" : Str)))))).bind fun z => if z = true then
  (t_l_bad_view bad term view)
else
  ((dCut none (some (-(1 : Int))) view).bind fun a15 => (((dIx view (D.int (-(1 : Int)))).bind fun a11 => G a11 (cell / (3 : Int)) bad term).bind fun z => .ok ((fPr (fOne (fun d => d))) z)).bind fun b16 => (dAdd a15 b16))
noncomputable def u_l_view_spoiled : Nat → D → Int → Int → D → Res D
  | 0 => fun _ _ _ _ => .bad
  | j + 1 => tb_l_view_spoiled (u_l_view_spoiled j)
noncomputable def t_l_view_spoiled : D → Int → Int → D → Res D := u_l_view_spoiled 12
theorem rb_l_view_spoiled {GF : List D → Res D} {G : D → Int → Int → D → Res D} (r_G : CallR GF (qC eD (qC eI (qC eI (q1 eD)))) (fun (a : D × Int × Int × D) => G a.1 a.2.1 a.2.2.1 a.2.2.2) eD) : CallR (runDef 4 4 (b_l_view_spoiled GF)) (qC eD (qC eI (qC eI (q1 eD)))) (fun (a : D × Int × Int × D) => tb_l_view_spoiled G a.1 a.2.1 a.2.2.1 a.2.2.2) eD := by
  have c_G : ∀ {ρ : KEnv} {fs : DL.Env → Res (List D)} {x0 : D} {x1 : Int} {x2 : Int} {x3 : D}, EvR ρ fs (.ok (x0, x1, x2, x3)) (qC eD (qC eI (qC eI (q1 eD)))) → EvR ρ (eCall GF fs) (G x0 x1 x2 x3) eD := fun {ρ fs x0 x1 x2 x3} h => v_callp (t := fun a : D × Int × Int × D => G a.1 a.2.1 a.2.2.1 a.2.2.2) (a := (x0, x1, x2, x3)) r_G h
  have m_G : ∀ {ρ : KEnv} {fs : DL.Env → Res (List D)} {r : Res (D × Int × Int × D)}, EvR ρ fs r (qC eD (qC eI (qC eI (q1 eD)))) → EvR ρ (eCall GF fs) (r.bind fun a => G a.1 a.2.1 a.2.2.1 a.2.2.2) eD := fun h => v_call (t := fun a : D × Int × Int × D => G a.1 a.2.1 a.2.2.1 a.2.2.2) r_G h
  rintro ⟨view, cell, bad, term⟩ _ ⟨d0, _, rfl, h0, ⟨d1, _, rfl, h1, ⟨d2, _, rfl, h2, ⟨d3, rfl, h3⟩⟩⟩⟩
  refine r_def (n := 4) (m := 4) (k := 0) (ρ := ([some (sh eD view), some (sh eI cell), some (sh eI bad), some (sh eD term)] : KEnv)) (LeA.cons h0 (LeA.cons h1 (LeA.cons h2 (LeA.cons h3 LeA.nil)))) rfl ?_
  exact (j_ifs (al := []) (b_orM (b_test (v_opp ((o_eq (EqE.int _)) _ _) (v_opp (o_modL _ (by decide)) (v_s (E := eI) (a := cell) (i := 1) rfl) (vN 3)) (vN 0))) (b_test (v_op (o_rawB dEq) (v_opp ((o_raw dIx) _ _) (v_s (E := eD) (a := view) (i := 0) rfl) (vI 0)) (vT ("all" : Str))))) (j_assoc (j_retT (c_l_bad_view (vq_cp (v_s (E := eI) (a := bad) (i := 2) rfl) (vq_cp (v_s (E := eD) (a := term) (i := 3) rfl) (vq_1 (v_s (E := eD) (a := view) (i := 0) rfl))))))) (j_skip (j_retT (v_op (o_raw dAdd) (v_cutD (v_s (E := eD) (a := view) (i := 0) rfl) vo_n (vo_s (v_neg (vN 1)))) (v_mapF (f := (fPr (fOne (fun d => d)))) (Fun.pr (FunQ.one Fun.raw)) (v_tupQ (vq_1 (v_eqr (r := ((dIx view (D.int (-(1 : Int)))).bind fun a9 => .ok (a9, (cell / (3 : Int)), bad, term)).bind fun a => G a.1 a.2.1 a.2.2.1 a.2.2.2) (m_G (vq_c (v_opp ((o_raw dIx) _ _) (v_s (E := eD) (a := view) (i := 0) rfl) (v_castF (f := D.int) Fun.int (v_neg (vN 1)))) (vq_cp (v_opp (o_divL _ (by decide) (by decide)) (v_s (E := eI) (a := cell) (i := 1) rfl) (vN 3)) (vq_cp (v_s (E := eI) (a := bad) (i := 2) rfl) (vq_1 (v_s (E := eD) (a := term) (i := 3) rfl)))))) (by first | (simp only [Res.assoc, Res.bind_ok]; done) | (simp only [Res.assoc, Res.bind_ok]; rfl))))))))))
theorem ru_l_view_spoiled : ∀ j, CallR (R_l_view_spoiled j) (qC eD (qC eI (qC eI (q1 eD)))) (fun (a : D × Int × Int × D) => u_l_view_spoiled j a.1 a.2.1 a.2.2.1 a.2.2.2) eD
  | 0 => fun _ _ _ => trivial
  | j + 1 => rb_l_view_spoiled (ru_l_view_spoiled j)
theorem r_l_view_spoiled : CallR F_l_view_spoiled (qC eD (qC eI (qC eI (q1 eD)))) (fun (a : D × Int × Int × D) => t_l_view_spoiled a.1 a.2.1 a.2.2.1 a.2.2.2) eD := ru_l_view_spoiled _
theorem c_l_view_spoiled {ρ : KEnv} {fs : DL.Env → Res (List D)} {x0 : D} {x1 : Int} {x2 : Int} {x3 : D} (h : EvR ρ fs (.ok (x0, x1, x2, x3)) (qC eD (qC eI (qC eI (q1 eD))))) : EvR ρ (eCall F_l_view_spoiled fs) (t_l_view_spoiled x0 x1 x2 x3) eD := v_callp (t := fun a : D × Int × Int × D => t_l_view_spoiled a.1 a.2.1 a.2.2.1 a.2.2.2) (a := (x0, x1, x2, x3)) r_l_view_spoiled h
theorem m_l_view_spoiled {ρ : KEnv} {fs : DL.Env → Res (List D)} {r : Res (D × Int × Int × D)} (h : EvR ρ fs r (qC eD (qC eI (qC eI (q1 eD))))) : EvR ρ (eCall F_l_view_spoiled fs) (r.bind fun a => t_l_view_spoiled a.1 a.2.1 a.2.2.1 a.2.2.2) eD := v_call (t := fun a : D × Int × Int × D => t_l_view_spoiled a.1 a.2.1 a.2.2.1 a.2.2.2) r_l_view_spoiled h
noncomputable def tb_l_view_deep (G : D → Res Int) (view : D) : Res Int :=
  ((dIx view (D.int (0 : Int))).bind fun a1 => (rawB (dEq a1 (D.str ("all" : Str))))).bind fun z => if z = true then
  Res.ok (1 : Int)
else
  ((dIx view (D.int (0 : Int))).bind fun a3 => (rawB (dEq a3 (D.str ("both" : Str))))).bind fun z => if z = true then
  ((((dIx view (D.int (1 : Int))).bind fun a5 => G a5).bind fun a7 => ((dIx view (D.int (2 : Int))).bind fun a6 => G a6).bind fun b8 => .ok (max a7 b8)).bind fun b10 => .ok ((1 : Int) + b10))
else
  (((dIx view (D.int (-(1 : Int)))).bind fun a11 => G a11).bind fun b13 => .ok ((1 : Int) + b13))
noncomputable def u_l_view_deep : Nat → D → Res Int
  | 0 => fun _ => .bad
  | j + 1 => tb_l_view_deep (u_l_view_deep j)
noncomputable def t_l_view_deep : D → Res Int := u_l_view_deep 12
theorem rb_l_view_deep {GF : List D → Res D} {G : D → Res Int} (r_G : CallR GF (q1 eD) (fun (a : D) => G a) eI) : CallR (runDef 1 1 (b_l_view_deep GF)) (q1 eD) (fun (a : D) => tb_l_view_deep G a) eI := by
  have c_G : ∀ {ρ : KEnv} {fs : DL.Env → Res (List D)} {x0 : D}, EvR ρ fs (.ok x0) (q1 eD) → EvR ρ (eCall GF fs) (G x0) eI := fun {ρ fs x0} h => v_callp (t := fun a : D => G a) (a := x0) r_G h
  have m_G : ∀ {ρ : KEnv} {fs : DL.Env → Res (List D)} {r : Res (D)}, EvR ρ fs r (q1 eD) → EvR ρ (eCall GF fs) (r.bind fun a => G a) eI := fun h => v_call (t := fun a : D => G a) r_G h
  rintro view _ ⟨d0, rfl, h0⟩
  refine r_def (n := 1) (m := 1) (k := 0) (ρ := ([some (sh eD view)] : KEnv)) (LeA.cons h0 LeA.nil) rfl ?_
  exact (j_ifs (al := []) (b_test (v_op (o_rawB dEq) (v_opp ((o_raw dIx) _ _) (v_s (E := eD) (a := view) (i := 0) rfl) (vI 0)) (vT ("all" : Str)))) (j_assoc (j_retT (vN 1))) (j_skip (j_ifs (al := []) (b_test (v_op (o_rawB dEq) (v_opp ((o_raw dIx) _ _) (v_s (E := eD) (a := view) (i := 0) rfl) (vI 0)) (vT ("both" : Str)))) (j_assoc (j_retT (v_op o_add (vN 1) (v_op o_max (m_G (vq_1 (v_opp ((o_raw dIx) _ _) (v_s (E := eD) (a := view) (i := 0) rfl) (vI 1)))) (m_G (vq_1 (v_opp ((o_raw dIx) _ _) (v_s (E := eD) (a := view) (i := 0) rfl) (vI 2)))))))) (j_skip (j_retT (v_op o_add (vN 1) (m_G (vq_1 (v_opp ((o_raw dIx) _ _) (v_s (E := eD) (a := view) (i := 0) rfl) (v_castF (f := D.int) Fun.int (v_neg (vN 1))))))))))))
theorem ru_l_view_deep : ∀ j, CallR (R_l_view_deep j) (q1 eD) (fun (a : D) => u_l_view_deep j a) eI
  | 0 => fun _ _ _ => trivial
  | j + 1 => rb_l_view_deep (ru_l_view_deep j)
theorem r_l_view_deep : CallR F_l_view_deep (q1 eD) (fun (a : D) => t_l_view_deep a) eI := ru_l_view_deep _
theorem c_l_view_deep {ρ : KEnv} {fs : DL.Env → Res (List D)} {x0 : D} (h : EvR ρ fs (.ok x0) (q1 eD)) : EvR ρ (eCall F_l_view_deep fs) (t_l_view_deep x0) eI := v_callp (t := fun a : D => t_l_view_deep a) (a := x0) r_l_view_deep h
theorem m_l_view_deep {ρ : KEnv} {fs : DL.Env → Res (List D)} {r : Res (D)} (h : EvR ρ fs r (q1 eD)) : EvR ρ (eCall F_l_view_deep fs) (r.bind fun a => t_l_view_deep a) eI := v_call (t := fun a : D => t_l_view_deep a) r_l_view_deep h
noncomputable def t_l_measure_by (cell : Int) (term : D) : Res (D × Bool) :=
  (Res.ok (((cell / (7 : Int)) % (131 : Int)) - (65 : Int))).bind fun low1 =>
  (Res.ok (low1 + ((cell / (917 : Int)) % (40 : Int)))).bind fun high2 =>
  (Res.ok (decide (((-(64 : Int)) ≤ low1) ∧ (high2 ≤ (64 : Int))))).bind fun good3 =>
  (Res.ok [(((fPr (fOne D.str)) ("count" : Str)), true), (((fPr (fCons D.str (fOne (fun d => d)))) (("kinds" : Str), term)), true), (((fPr (fCons D.str (fCons (fun d => d) (fCons D.int (fOne D.int))))) (("sum" : Str), term, low1, high2)), good3)]).bind fun some_4 =>
  (catR some_4 [(((fPr (fCons D.str (fCons (fun d => d) (fCons D.int (fOne D.int))))) (("sum" : Str), term, ((1 : Int) + ((cell / (7 : Int)) % (60 : Int))), (0 : Int))), false), (((fPr (fCons D.str (fOne (fun d => d)))) (("count" : Str), term)), false), (((fPr (fOne D.str)) ("kinds" : Str)), false)]).bind fun some_5 =>
  (catR some_5 [(((fPr (fCons D.str (fCons D.int (fCons D.int (fOne (fun d => d)))))) (("sum" : Str), low1, high2, term)), false), (((fPr (fCons D.str (fOne (fPr (fCons D.str (fOne D.str)))))) (("kinds" : Str), (("num" : Str), ("a" : Str)))), false), (((fPr (fCons D.str (fOne (fun d => d)))) (("mean" : Str), term)), false)]).bind fun some_6 =>
  (catR some_6 [(((fun _ => D.tup []) ()), false), (((fPr (fCons D.str (fCons (fun d => d) (fOne D.int)))) (("sum" : Str), term, (0 : Int))), false), (term, false), ((D.str ("count" : Str)), false)]).bind fun some_7 =>
  (t_l_no_term (cell / (16 : Int)) term).bind fun bad8 =>
  (catR some_7 [(((fPr (fCons D.str (fCons (fun d => d) (fCons D.int (fOne D.int))))) (("sum" : Str), term, (65 : Int), (65 : Int))), false), (((fPr (fCons D.str (fCons (fun d => d) (fCons D.int (fOne D.int))))) (("sum" : Str), bad8, (0 : Int), (1 : Int))), false), (((fPr (fCons D.str (fOne (fun d => d)))) (("kinds" : Str), bad8)), false)]).bind fun some_9 =>
  (getL some_9 (cell % (16 : Int)))
theorem r_l_measure_by : CallR F_l_measure_by (qC eI (q1 eD)) (fun (a : Int × D) => t_l_measure_by a.1 a.2) (eQ (qC eD (q1 eB))) := by
  rintro ⟨cell, term⟩ _ ⟨d0, _, rfl, h0, ⟨d1, rfl, h1⟩⟩
  refine r_def (n := 2) (m := 7) (k := 5) (ρ := ([some (sh eI cell), some (sh eD term)] : KEnv)) (LeA.cons h0 (LeA.cons h1 LeA.nil)) rfl ?_
  exact (j_do (d_set (al := []) (v_opp (o_sub _ _) (v_opp (o_modL _ (by decide)) (v_opp (o_divL _ (by decide) (by decide)) (v_s (E := eI) (a := cell) (i := 0) rfl) (vN 7)) (vN 131)) (vN 65))) (fun low1 => (j_do (d_set (al := []) (v_opp (o_add _ _) (v_s (E := eI) (a := low1) (i := 2) rfl) (v_opp (o_modL _ (by decide)) (v_opp (o_divL _ (by decide) (by decide)) (v_s (E := eI) (a := cell) (i := 0) rfl) (vN 917)) (vN 40)))) (fun high2 => (j_do (d_set (al := []) (v_andP (v_opp (o_le _ _) (v_neg (vN 64)) (v_s (E := eI) (a := low1) (i := 2) rfl)) (v_opp (o_le _ _) (v_s (E := eI) (a := high2) (i := 3) rfl) (vN 64)))) (fun good3 => (j_do (d_set (al := []) (v_lst (vl_cp (v_tupQ (vq_cp (v_castF (f := (fPr (fOne D.str))) (Fun.pr (FunQ.one Fun.str)) (v_tupQ (vq_1 (v_c (E := eS) (a := ("count" : Str)) rfl)))) (vq_1 (v_c (E := eB) (a := true) rfl)))) (vl_cp (v_tupQ (vq_cp (v_castF (f := (fPr (fCons D.str (fOne (fun d => d))))) (Fun.pr (FunQ.c Fun.str (FunQ.one Fun.raw))) (v_tupQ (vq_cp (v_c (E := eS) (a := ("kinds" : Str)) rfl) (vq_1 (v_s (E := eD) (a := term) (i := 1) rfl))))) (vq_1 (v_c (E := eB) (a := true) rfl)))) (vl_cp (v_tupQ (vq_cp (v_castF (f := (fPr (fCons D.str (fCons (fun d => d) (fCons D.int (fOne D.int)))))) (Fun.pr (FunQ.c Fun.str (FunQ.c Fun.raw (FunQ.c Fun.int (FunQ.one Fun.int))))) (v_tupQ (vq_cp (v_c (E := eS) (a := ("sum" : Str)) rfl) (vq_cp (v_s (E := eD) (a := term) (i := 1) rfl) (vq_cp (v_s (E := eI) (a := low1) (i := 2) rfl) (vq_1 (v_s (E := eI) (a := high2) (i := 3) rfl))))))) (vq_1 (v_s (E := eB) (a := good3) (i := 4) rfl)))) vl_nil))))) (fun some_4 => (j_do (d_set (al := []) (v_opp (o_catL _ _) (v_s (E := (eL (eQ (qC eD (q1 eB))))) (a := some_4) (i := 5) rfl) (v_lst (vl_cp (v_tupQ (vq_cp (v_castF (f := (fPr (fCons D.str (fCons (fun d => d) (fCons D.int (fOne D.int)))))) (Fun.pr (FunQ.c Fun.str (FunQ.c Fun.raw (FunQ.c Fun.int (FunQ.one Fun.int))))) (v_tupQ (vq_cp (v_c (E := eS) (a := ("sum" : Str)) rfl) (vq_cp (v_s (E := eD) (a := term) (i := 1) rfl) (vq_cp (v_opp (o_add _ _) (vN 1) (v_opp (o_modL _ (by decide)) (v_opp (o_divL _ (by decide) (by decide)) (v_s (E := eI) (a := cell) (i := 0) rfl) (vN 7)) (vN 60))) (vq_1 (vN 0))))))) (vq_1 (v_c (E := eB) (a := false) rfl)))) (vl_cp (v_tupQ (vq_cp (v_castF (f := (fPr (fCons D.str (fOne (fun d => d))))) (Fun.pr (FunQ.c Fun.str (FunQ.one Fun.raw))) (v_tupQ (vq_cp (v_c (E := eS) (a := ("count" : Str)) rfl) (vq_1 (v_s (E := eD) (a := term) (i := 1) rfl))))) (vq_1 (v_c (E := eB) (a := false) rfl)))) (vl_cp (v_tupQ (vq_cp (v_castF (f := (fPr (fOne D.str))) (Fun.pr (FunQ.one Fun.str)) (v_tupQ (vq_1 (v_c (E := eS) (a := ("kinds" : Str)) rfl)))) (vq_1 (v_c (E := eB) (a := false) rfl)))) vl_nil)))))) (fun some_5 => (j_do (d_set (al := []) (v_opp (o_catL _ _) (v_s (E := (eL (eQ (qC eD (q1 eB))))) (a := some_5) (i := 5) rfl) (v_lst (vl_cp (v_tupQ (vq_cp (v_castF (f := (fPr (fCons D.str (fCons D.int (fCons D.int (fOne (fun d => d))))))) (Fun.pr (FunQ.c Fun.str (FunQ.c Fun.int (FunQ.c Fun.int (FunQ.one Fun.raw))))) (v_tupQ (vq_cp (v_c (E := eS) (a := ("sum" : Str)) rfl) (vq_cp (v_s (E := eI) (a := low1) (i := 2) rfl) (vq_cp (v_s (E := eI) (a := high2) (i := 3) rfl) (vq_1 (v_s (E := eD) (a := term) (i := 1) rfl))))))) (vq_1 (v_c (E := eB) (a := false) rfl)))) (vl_cp (v_tupQ (vq_cp (v_castF (f := (fPr (fCons D.str (fOne (fPr (fCons D.str (fOne D.str))))))) (Fun.pr (FunQ.c Fun.str (FunQ.one (Fun.pr (FunQ.c Fun.str (FunQ.one Fun.str)))))) (v_tupQ (vq_cp (v_c (E := eS) (a := ("kinds" : Str)) rfl) (vq_1 (v_tupQ (vq_cp (v_c (E := eS) (a := ("num" : Str)) rfl) (vq_1 (v_c (E := eS) (a := ("a" : Str)) rfl)))))))) (vq_1 (v_c (E := eB) (a := false) rfl)))) (vl_cp (v_tupQ (vq_cp (v_castF (f := (fPr (fCons D.str (fOne (fun d => d))))) (Fun.pr (FunQ.c Fun.str (FunQ.one Fun.raw))) (v_tupQ (vq_cp (v_c (E := eS) (a := ("mean" : Str)) rfl) (vq_1 (v_s (E := eD) (a := term) (i := 1) rfl))))) (vq_1 (v_c (E := eB) (a := false) rfl)))) vl_nil)))))) (fun some_6 => (j_do (d_set (al := []) (v_opp (o_catL _ _) (v_s (E := (eL (eQ (qC eD (q1 eB))))) (a := some_6) (i := 5) rfl) (v_lst (vl_cp (v_tupQ (vq_cp (v_castF (f := (fun _ => D.tup [])) Fun.tup0 (v_tupQ vq_n)) (vq_1 (v_c (E := eB) (a := false) rfl)))) (vl_cp (v_tupQ (vq_cp (v_castF (f := (fPr (fCons D.str (fCons (fun d => d) (fOne D.int))))) (Fun.pr (FunQ.c Fun.str (FunQ.c Fun.raw (FunQ.one Fun.int)))) (v_tupQ (vq_cp (v_c (E := eS) (a := ("sum" : Str)) rfl) (vq_cp (v_s (E := eD) (a := term) (i := 1) rfl) (vq_1 (vN 0)))))) (vq_1 (v_c (E := eB) (a := false) rfl)))) (vl_cp (v_tupQ (vq_cp (v_s (E := eD) (a := term) (i := 1) rfl) (vq_1 (v_c (E := eB) (a := false) rfl)))) (vl_cp (v_tupQ (vq_cp (vT ("count" : Str)) (vq_1 (v_c (E := eB) (a := false) rfl)))) vl_nil))))))) (fun some_7 => (j_do (d_set (al := []) (c_l_no_term (vq_cp (v_opp (o_divL _ (by decide) (by decide)) (v_s (E := eI) (a := cell) (i := 0) rfl) (vN 16)) (vq_1 (v_s (E := eD) (a := term) (i := 1) rfl))))) (fun bad8 => (j_do (d_set (al := []) (v_opp (o_catL _ _) (v_s (E := (eL (eQ (qC eD (q1 eB))))) (a := some_7) (i := 5) rfl) (v_lst (vl_cp (v_tupQ (vq_cp (v_castF (f := (fPr (fCons D.str (fCons (fun d => d) (fCons D.int (fOne D.int)))))) (Fun.pr (FunQ.c Fun.str (FunQ.c Fun.raw (FunQ.c Fun.int (FunQ.one Fun.int))))) (v_tupQ (vq_cp (v_c (E := eS) (a := ("sum" : Str)) rfl) (vq_cp (v_s (E := eD) (a := term) (i := 1) rfl) (vq_cp (vN 65) (vq_1 (vN 65))))))) (vq_1 (v_c (E := eB) (a := false) rfl)))) (vl_cp (v_tupQ (vq_cp (v_castF (f := (fPr (fCons D.str (fCons (fun d => d) (fCons D.int (fOne D.int)))))) (Fun.pr (FunQ.c Fun.str (FunQ.c Fun.raw (FunQ.c Fun.int (FunQ.one Fun.int))))) (v_tupQ (vq_cp (v_c (E := eS) (a := ("sum" : Str)) rfl) (vq_cp (v_s (E := eD) (a := bad8) (i := 6) rfl) (vq_cp (vN 0) (vq_1 (vN 1))))))) (vq_1 (v_c (E := eB) (a := false) rfl)))) (vl_cp (v_tupQ (vq_cp (v_castF (f := (fPr (fCons D.str (fOne (fun d => d))))) (Fun.pr (FunQ.c Fun.str (FunQ.one Fun.raw))) (v_tupQ (vq_cp (v_c (E := eS) (a := ("kinds" : Str)) rfl) (vq_1 (v_s (E := eD) (a := bad8) (i := 6) rfl))))) (vq_1 (v_c (E := eB) (a := false) rfl)))) vl_nil)))))) (fun some_9 => (j_retT (v_opp (o_ixAL _ _) (v_s (E := (eL (eQ (qC eD (q1 eB))))) (a := some_9) (i := 5) rfl) (v_opp (o_modL _ (by decide)) (v_s (E := eI) (a := cell) (i := 0) rfl) (vN 16))))))))))))))))))))))
theorem c_l_measure_by {ρ : KEnv} {fs : DL.Env → Res (List D)} {x0 : Int} {x1 : D} (h : EvR ρ fs (.ok (x0, x1)) (qC eI (q1 eD))) : EvR ρ (eCall F_l_measure_by fs) (t_l_measure_by x0 x1) (eQ (qC eD (q1 eB))) := v_callp (t := fun a : Int × D => t_l_measure_by a.1 a.2) (a := (x0, x1)) r_l_measure_by h
theorem m_l_measure_by {ρ : KEnv} {fs : DL.Env → Res (List D)} {r : Res (Int × D)} (h : EvR ρ fs r (qC eI (q1 eD))) : EvR ρ (eCall F_l_measure_by fs) (r.bind fun a => t_l_measure_by a.1 a.2) (eQ (qC eD (q1 eB))) := v_call (t := fun a : Int × D => t_l_measure_by a.1 a.2) r_l_measure_by h
noncomputable def t_is_measure (thing : D) : Res Bool :=
  ((t_headed thing).bind fun z => .ok (!z)).bind fun z => if z = true then
  Res.ok false
else
  ((dIx thing (D.int (0 : Int))).bind fun a1 => (rawB (dEq a1 (D.str ("count" : Str))))).bind fun z => if z = true then
  (((dLen thing).bind D.asI).bind fun a3 => .ok (decide (a3 = (1 : Int))))
else
  ((dIx thing (D.int (0 : Int))).bind fun a5 => (rawB (dEq a5 (D.str ("kinds" : Str))))).bind fun z => if z = true then
  ((((dLen thing).bind D.asI).bind fun a7 => .ok (decide (a7 = (2 : Int)))).bind fun z => if z = true then ((dIx thing (D.int (1 : Int))).bind fun a9 => t_is_term a9) else .ok false)
else
  (((dIx thing (D.int (0 : Int))).bind fun a10 => (rawB (dNe a10 (D.str ("sum" : Str))))).bind fun z => if z = true then .ok true else ((((dLen thing).bind D.asI).bind fun a12 => .ok (decide (a12 ≠ (4 : Int)))).bind fun z => if z = true then .ok true else (((dIx thing (D.int (1 : Int))).bind fun a14 => t_is_term a14).bind fun z => .ok (!z)))).bind fun z => if z = true then
  Res.ok false
else
  (((dIx thing (D.int (2 : Int))).bind fun a17 => t_lies_between a17 (-(64 : Int)) (64 : Int)).bind fun z => if z = true then (((dIx thing (D.int (3 : Int))).bind fun a22 => t_lies_between a22 (-(64 : Int)) (64 : Int)).bind fun z => if z = true then (((dIx thing (D.int (2 : Int))).bind D.asI).bind fun a25 => ((dIx thing (D.int (3 : Int))).bind D.asI).bind fun b26 => .ok (decide (a25 ≤ b26))) else .ok false) else .ok false)
theorem r_is_measure : CallR F_is_measure (q1 eD) (fun (a : D) => t_is_measure a) eB := by
  rintro thing _ ⟨d0, rfl, h0⟩
  refine r_def (n := 1) (m := 1) (k := 0) (ρ := ([some (sh eD thing)] : KEnv)) (LeA.cons h0 LeA.nil) rfl ?_
  exact (j_ifs (al := []) (b_not (b_truB (c_headed (vq_1 (v_s (E := eD) (a := thing) (i := 0) rfl))))) (j_assoc (j_retT (v_c (E := eB) (a := false) rfl))) (j_skip (j_ifs (al := []) (b_test (v_op (o_rawB dEq) (v_opp ((o_raw dIx) _ _) (v_s (E := eD) (a := thing) (i := 0) rfl) (vI 0)) (vT ("count" : Str)))) (j_assoc (j_retT (v_op (o_eq (EqE.int _)) (v_asI (v_1p ((o_raw1 dLen) _) (v_s (E := eD) (a := thing) (i := 0) rfl))) (vN 1)))) (j_skip (j_ifs (al := []) (b_test (v_op (o_rawB dEq) (v_opp ((o_raw dIx) _ _) (v_s (E := eD) (a := thing) (i := 0) rfl) (vI 0)) (vT ("kinds" : Str)))) (j_assoc (j_retT (v_and (v_op (o_eq (EqE.int _)) (v_asI (v_1p ((o_raw1 dLen) _) (v_s (E := eD) (a := thing) (i := 0) rfl))) (vN 2)) (m_is_term (vq_1 (v_opp ((o_raw dIx) _ _) (v_s (E := eD) (a := thing) (i := 0) rfl) (vI 1))))))) (j_skip (j_ifs (al := []) (b_or (b_test (v_op (o_rawB dNe) (v_opp ((o_raw dIx) _ _) (v_s (E := eD) (a := thing) (i := 0) rfl) (vI 0)) (vT ("sum" : Str)))) (b_or (b_test (v_op (o_ne (EqE.int _)) (v_asI (v_1p ((o_raw1 dLen) _) (v_s (E := eD) (a := thing) (i := 0) rfl))) (vN 4))) (b_not (b_truB (m_is_term (vq_1 (v_opp ((o_raw dIx) _ _) (v_s (E := eD) (a := thing) (i := 0) rfl) (vI 1)))))))) (j_assoc (j_retT (v_c (E := eB) (a := false) rfl))) (j_skip (j_retT (v_and (v_eqr (r := ((dIx thing (D.int (2 : Int))).bind fun a15 => .ok (a15, (-(64 : Int)), (64 : Int))).bind fun a => t_lies_between a.1 a.2.1 a.2.2) (m_lies_between (vq_c (v_opp ((o_raw dIx) _ _) (v_s (E := eD) (a := thing) (i := 0) rfl) (vI 2)) (vq_cp (v_neg (vN 64)) (vq_1 (vN 64))))) (by first | (simp only [Res.assoc, Res.bind_ok]; done) | (simp only [Res.assoc, Res.bind_ok]; rfl))) (v_and (v_eqr (r := ((dIx thing (D.int (3 : Int))).bind fun a20 => .ok (a20, (-(64 : Int)), (64 : Int))).bind fun a => t_lies_between a.1 a.2.1 a.2.2) (m_lies_between (vq_c (v_opp ((o_raw dIx) _ _) (v_s (E := eD) (a := thing) (i := 0) rfl) (vI 3)) (vq_cp (v_neg (vN 64)) (vq_1 (vN 64))))) (by first | (simp only [Res.assoc, Res.bind_ok]; done) | (simp only [Res.assoc, Res.bind_ok]; rfl))) (v_op o_le (v_asI (v_opp ((o_raw dIx) _ _) (v_s (E := eD) (a := thing) (i := 0) rfl) (vI 2))) (v_asI (v_opp ((o_raw dIx) _ _) (v_s (E := eD) (a := thing) (i := 0) rfl) (vI 3)))))))))))))))
theorem c_is_measure {ρ : KEnv} {fs : DL.Env → Res (List D)} {x0 : D} (h : EvR ρ fs (.ok x0) (q1 eD)) : EvR ρ (eCall F_is_measure fs) (t_is_measure x0) eB := v_callp (t := fun a : D => t_is_measure a) (a := x0) r_is_measure h
theorem m_is_measure {ρ : KEnv} {fs : DL.Env → Res (List D)} {r : Res (D)} (h : EvR ρ fs r (q1 eD)) : EvR ρ (eCall F_is_measure fs) (r.bind fun a => t_is_measure a) eB := v_call (t := fun a : D => t_is_measure a) r_is_measure h
noncomputable def t_law (script : (List Int)) : Res Bool :=
  (catR script [(4 : Int)]).bind fun cells1 =>
  (t_l_grown cells1).bind fun terms2 =>
  (t_l_view_grown cells1 terms2).bind fun views3 =>
  thenX ((rng1 ((cells1.length : Nat) : Int)).bind fun l32 => forX l32 () (fun k5 s4 =>
  ((getL cells1 k5).bind fun a6 => (modR a6 (10 ^ 30 : Int))).bind fun cell8 =>
  ((modR k5 ((terms2.length : Nat) : Int)).bind fun b10 => (getL terms2 b10)).bind fun term11 =>
  ((modR k5 ((views3.length : Nat) : Int)).bind fun b13 => (getL views3 b13)).bind fun view14 =>
  ((((t_is_view view14).bind fun z => .ok (D.bl z)).bind fun a15 => (rawB (dIsNot a15 (D.bl true)))).bind fun z => if z = true then .ok true else ((((t_l_view_spoiled view14 (cell8 / (30 : Int)) cell8 term11).bind fun a17 => t_is_view a17).bind fun z => .ok (D.bl z)).bind fun a18 => (rawB (dIsNot a18 (D.bl false))))).bind fun z => if z = true then
  Res.ok (.rt false)
else
  (((t_l_view_deep view14).bind fun a20 => .ok (a20 + ((cell8 / (2 : Int)) % (7 : Int)))).bind fun a22 => .ok (decide (a22 ≤ (6 : Int)))).bind fun due24 =>
  ((rng1 ((cell8 / (2 : Int)) % (7 : Int))).bind fun l28 => forR l28 view14 (fun j26 s25 =>
  (getL [((fPr (fCons D.str (fOne (fun d => d)))) (("unlike" : Str), s25)), ((fPr (fCons D.str (fCons (fPr (fCons D.str (fOne D.int))) (fOne (fun d => d))))) (("keep" : Str), (("num" : Str), (1 : Int)), s25)), ((fPr (fCons D.str (fCons (fun d => d) (fOne (fPr (fOne D.str)))))) (("both" : Str), s25, ("all" : Str)))] ((cell8 + j26) % (3 : Int))).bind fun view27 =>
  Res.ok view27) : Res (D)).bind fun s25 =>
  (t_is_view s25).bind fun found29 =>
  if ((¬ (true = true)) ∨ (found29 ≠ due24)) then
  Res.ok (.rt false)
else
  (t_l_measure_by cell8 term11).bind fun z30 =>
  (t_is_measure z30.1).bind fun found31 =>
  if ((¬ (true = true)) ∨ (found31 ≠ z30.2)) then
  Res.ok (.rt false)
else
  Res.ok (.nx ())) : Res (Oc Unit Bool)) (fun v => v) fun s4 =>
  Res.ok true
theorem r_law : CallR F_law (q1 (eL eI)) (fun (a : (List Int)) => t_law a) eB := by
  rintro script _ ⟨d0, rfl, h0⟩
  refine r_def (n := 1) (m := 13) (k := 12) (ρ := ([some (sh (eL eI) script)] : KEnv)) (LeA.cons h0 LeA.nil) rfl ?_
  exact (j_do (d_set (al := []) (v_opp (o_catL _ _) (v_s (E := (eL eI)) (a := script) (i := 0) rfl) (v_lst (vl_cp (vN 4) vl_nil)))) (fun cells1 => (j_do (d_set (al := []) (c_l_grown (vq_1 (v_s (E := (eL eI)) (a := cells1) (i := 1) rfl)))) (fun terms2 => (j_do (d_set (al := []) (c_l_view_grown (vq_cp (v_s (E := (eL eI)) (a := cells1) (i := 1) rfl) (vq_1 (v_s (E := (eL eD)) (a := terms2) (i := 2) rfl))))) (fun views3 => (j_xT (d_forX (E' := eB) (al := []) (ρs := fun (s4 : Unit) => ([some (sh (eL eI) script), some (sh (eL eI) cells1), some (sh (eL eD) terms2), some (sh (eL eD) views3), none, none, none, none, none, none, none, none, none] : KEnv)) (ρb := fun k5 (s4 : Unit) => ([some (sh (eL eI) script), some (sh (eL eI) cells1), some (sh (eL eD) terms2), some (sh (eL eD) views3), some (sh eI k5), none, none, none, none, none, none, none, none] : KEnv)) (v_rng1p (v_1p (o_lenL _) (v_s (E := (eL eI)) (a := cells1) (i := 1) rfl))) (Sb.same (Sb.same (Sb.same (Sb.same (Sb.drop (Sb.drop (Sb.drop (Sb.drop (Sb.drop (Sb.drop (Sb.drop (Sb.drop (Sb.drop Sb.nil))))))))))))) (fun k5 s4 => (p_nm (i := 4))) (fun k5 s4 => (j_do (d_set (al := []) (v_op o_mod (v_opp (o_ixAL _ _) (v_s (E := (eL eI)) (a := cells1) (i := 1) rfl) (v_s (E := eI) (a := k5) (i := 4) rfl)) (v_opp (o_powL pow_10_30) (vN 10) (vN 30)))) (fun cell8 => (j_do (d_set (al := []) (v_op o_ixAL (v_s (E := (eL eD)) (a := terms2) (i := 2) rfl) (v_opp (o_mod _ _) (v_s (E := eI) (a := k5) (i := 4) rfl) (v_1p (o_lenL _) (v_s (E := (eL eD)) (a := terms2) (i := 2) rfl))))) (fun term11 => (j_do (d_set (al := []) (v_op o_ixAL (v_s (E := (eL eD)) (a := views3) (i := 3) rfl) (v_opp (o_mod _ _) (v_s (E := eI) (a := k5) (i := 4) rfl) (v_1p (o_lenL _) (v_s (E := (eL eD)) (a := views3) (i := 3) rfl))))) (fun view14 => (j_ifs (al := []) (b_or (b_test (v_op (o_rawB dIsNot) (v_mapF (f := D.bl) Fun.bl (c_is_view (vq_1 (v_s (E := eD) (a := view14) (i := 7) rfl)))) (v_castF (f := D.bl) Fun.bl (v_c (E := eB) (a := true) rfl)))) (b_test (v_op (o_rawB dIsNot) (v_mapF (f := D.bl) Fun.bl (m_is_view (vq_1 (c_l_view_spoiled (vq_cp (v_s (E := eD) (a := view14) (i := 7) rfl) (vq_cp (v_opp (o_divL _ (by decide) (by decide)) (v_s (E := eI) (a := cell8) (i := 5) rfl) (vN 30)) (vq_cp (v_s (E := eI) (a := cell8) (i := 5) rfl) (vq_1 (v_s (E := eD) (a := term11) (i := 6) rfl))))))))) (v_castF (f := D.bl) Fun.bl (v_c (E := eB) (a := false) rfl))))) (j_assoc (j_retL (v_c (E := eB) (a := false) rfl))) (j_skip (j_do (d_set (al := []) (v_op o_le (v_op o_add (c_l_view_deep (vq_1 (v_s (E := eD) (a := view14) (i := 7) rfl))) (v_opp (o_modL _ (by decide)) (v_opp (o_divL _ (by decide) (by decide)) (v_s (E := eI) (a := cell8) (i := 5) rfl) (vN 2)) (vN 7))) (vN 6))) (fun due24 => (j_do (d_for (al := []) (ρs := fun (s25 : (D)) => ([some (sh (eL eI) script), some (sh (eL eI) cells1), some (sh (eL eD) terms2), some (sh (eL eD) views3), some (sh eI k5), some (sh eI cell8), some (sh eD term11), some (sh eD s25), some (sh eB due24), none, none, none, none] : KEnv)) (ρb := fun j26 (s25 : (D)) => ([some (sh (eL eI) script), some (sh (eL eI) cells1), some (sh (eL eD) terms2), some (sh (eL eD) views3), some (sh eI k5), some (sh eI cell8), some (sh eD term11), some (sh eD s25), some (sh eB due24), some (sh eI j26), none, none, none] : KEnv)) (v_rng1p (v_opp (o_modL _ (by decide)) (v_opp (o_divL _ (by decide) (by decide)) (v_s (E := eI) (a := cell8) (i := 5) rfl) (vN 2)) (vN 7))) (Sb.same (Sb.same (Sb.same (Sb.same (Sb.same (Sb.same (Sb.same (Sb.same (Sb.same (Sb.drop (Sb.drop (Sb.drop (Sb.drop Sb.nil))))))))))))) (fun j26 s25 => (p_nm (i := 9))) (fun j26 s25 => (j_do (d_set (al := []) (v_opp (o_ixAL _ _) (v_lst (vl_cp (v_castF (f := (fPr (fCons D.str (fOne (fun d => d))))) (Fun.pr (FunQ.c Fun.str (FunQ.one Fun.raw))) (v_tupQ (vq_cp (v_c (E := eS) (a := ("unlike" : Str)) rfl) (vq_1 (v_s (E := eD) (a := s25) (i := 7) rfl))))) (vl_cp (v_castF (f := (fPr (fCons D.str (fCons (fPr (fCons D.str (fOne D.int))) (fOne (fun d => d)))))) (Fun.pr (FunQ.c Fun.str (FunQ.c (Fun.pr (FunQ.c Fun.str (FunQ.one Fun.int))) (FunQ.one Fun.raw)))) (v_tupQ (vq_cp (v_c (E := eS) (a := ("keep" : Str)) rfl) (vq_cp (v_tupQ (vq_cp (v_c (E := eS) (a := ("num" : Str)) rfl) (vq_1 (vN 1)))) (vq_1 (v_s (E := eD) (a := s25) (i := 7) rfl)))))) (vl_cp (v_castF (f := (fPr (fCons D.str (fCons (fun d => d) (fOne (fPr (fOne D.str))))))) (Fun.pr (FunQ.c Fun.str (FunQ.c Fun.raw (FunQ.one (Fun.pr (FunQ.one Fun.str)))))) (v_tupQ (vq_cp (v_c (E := eS) (a := ("both" : Str)) rfl) (vq_cp (v_s (E := eD) (a := s25) (i := 7) rfl) (vq_1 (v_tupQ (vq_1 (v_c (E := eS) (a := ("all" : Str)) rfl)))))))) vl_nil)))) (v_opp (o_modL _ (by decide)) (v_opp (o_add _ _) (v_s (E := eI) (a := cell8) (i := 5) rfl) (v_s (E := eI) (a := j26) (i := 9) rfl)) (vN 3)))) (fun view27 => (j_endB (Sb.same (Sb.same (Sb.same (Sb.same (Sb.same (Sb.same (Sb.same (Sb.same (Sb.same (Sb.drop (Sb.drop (Sb.drop (Sb.drop Sb.nil)))))))))))))))))) (fun s25 => (j_do (d_set (al := []) (c_is_view (vq_1 (v_s (E := eD) (a := s25) (i := 7) rfl)))) (fun found29 => (j_ifsP (al := []) (b_orP (b_notP (b_P (b_truB (v_1p (isBool_Bool _) (v_s (E := eB) (a := found29) (i := 10) rfl))))) (b_test (v_opp ((o_ne (EqE.bl _)) _ _) (v_s (E := eB) (a := found29) (i := 10) rfl) (v_s (E := eB) (a := due24) (i := 8) rfl)))) (j_assoc (j_retL (v_c (E := eB) (a := false) rfl))) (j_skip (j_do (d_asg (al := []) (ρs := fun z30 => ([some (sh (eL eI) script), some (sh (eL eI) cells1), some (sh (eL eD) terms2), some (sh (eL eD) views3), some (sh eI k5), some (sh eI cell8), some (sh eD term11), some (sh eD s25), some (sh eB due24), none, some (sh eB found29), some (sh eD z30.1), some (sh eB z30.2)] : KEnv)) (c_l_measure_by (vq_cp (v_s (E := eI) (a := cell8) (i := 5) rfl) (vq_1 (v_s (E := eD) (a := term11) (i := 6) rfl)))) (fun z30 => (p_tp (ps_c' (p_nm (i := 11)) (ps_1 (p_nm (i := 12))))))) (fun z30 => (j_do (d_set (al := []) (c_is_measure (vq_1 (v_s (E := eD) (a := z30.1) (i := 11) rfl)))) (fun found31 => (j_ifsP (al := []) (b_orP (b_notP (b_P (b_truB (v_1p (isBool_Bool _) (v_s (E := eB) (a := found31) (i := 10) rfl))))) (b_test (v_opp ((o_ne (EqE.bl _)) _ _) (v_s (E := eB) (a := found31) (i := 10) rfl) (v_s (E := eB) (a := z30.2) (i := 12) rfl)))) (j_assoc (j_retL (v_c (E := eB) (a := false) rfl))) (j_skip (j_endL (Sb.same (Sb.same (Sb.same (Sb.same (Sb.drop (Sb.drop (Sb.drop (Sb.drop (Sb.drop (Sb.drop (Sb.drop (Sb.drop (Sb.drop Sb.nil)))))))))))))))))))))))))))))))))))))) (fun s4 => (j_retT (v_c (E := eB) (a := true) rfl))))))))))
theorem c_law {ρ : KEnv} {fs : DL.Env → Res (List D)} {x0 : (List Int)} (h : EvR ρ fs (.ok x0) (q1 (eL eI))) : EvR ρ (eCall F_law fs) (t_law x0) eB := v_callp (t := fun a : (List Int) => t_law a) (a := x0) r_law h
theorem m_law {ρ : KEnv} {fs : DL.Env → Res (List D)} {r : Res ((List Int))} (h : EvR ρ fs r (q1 (eL eI))) : EvR ρ (eCall F_law fs) (r.bind fun a => t_law a) eB := v_call (t := fun a : (List Int) => t_law a) r_law h
/-! ### heads of statements, views, measures, terms -/
@[simp] theorem sn_add_any : (Str.ofString "add" = Str.ofString "any") = False := eq_false (by decide +kernel)
@[simp] theorem sn_add_both : (Str.ofString "add" = Str.ofString "both") = False := eq_false (by decide +kernel)
@[simp] theorem sn_add_field : (Str.ofString "add" = Str.ofString "field") = False := eq_false (by decide +kernel)
@[simp] theorem sn_add_less : (Str.ofString "add" = Str.ofString "less") = False := eq_false (by decide +kernel)
@[simp] theorem sn_add_mul : (Str.ofString "add" = Str.ofString "mul") = False := eq_false (by decide +kernel)
@[simp] theorem sn_add_name : (Str.ofString "add" = Str.ofString "name") = False := eq_false (by decide +kernel)
@[simp] theorem sn_add_not : (Str.ofString "add" = Str.ofString "not") = False := eq_false (by decide +kernel)
@[simp] theorem sn_add_num : (Str.ofString "add" = Str.ofString "num") = False := eq_false (by decide +kernel)
@[simp] theorem sn_add_pick : (Str.ofString "add" = Str.ofString "pick") = False := eq_false (by decide +kernel)
@[simp] theorem sn_add_quo : (Str.ofString "add" = Str.ofString "quo") = False := eq_false (by decide +kernel)
@[simp] theorem sn_add_same : (Str.ofString "add" = Str.ofString "same") = False := eq_false (by decide +kernel)
@[simp] theorem sn_add_sub : (Str.ofString "add" = Str.ofString "sub") = False := eq_false (by decide +kernel)
@[simp] theorem sn_all_both : (Str.ofString "all" = Str.ofString "both") = False := eq_false (by decide +kernel)
@[simp] theorem sn_all_cap : (Str.ofString "all" = Str.ofString "cap") = False := eq_false (by decide +kernel)
@[simp] theorem sn_all_keep : (Str.ofString "all" = Str.ofString "keep") = False := eq_false (by decide +kernel)
@[simp] theorem sn_all_match : (Str.ofString "all" = Str.ofString "match") = False := eq_false (by decide +kernel)
@[simp] theorem sn_all_rows : (Str.ofString "all" = Str.ofString "rows") = False := eq_false (by decide +kernel)
@[simp] theorem sn_all_unlike : (Str.ofString "all" = Str.ofString "unlike") = False := eq_false (by decide +kernel)
@[simp] theorem sn_any_add : (Str.ofString "any" = Str.ofString "add") = False := eq_false (by decide +kernel)
@[simp] theorem sn_any_both : (Str.ofString "any" = Str.ofString "both") = False := eq_false (by decide +kernel)
@[simp] theorem sn_any_field : (Str.ofString "any" = Str.ofString "field") = False := eq_false (by decide +kernel)
@[simp] theorem sn_any_less : (Str.ofString "any" = Str.ofString "less") = False := eq_false (by decide +kernel)
@[simp] theorem sn_any_mul : (Str.ofString "any" = Str.ofString "mul") = False := eq_false (by decide +kernel)
@[simp] theorem sn_any_name : (Str.ofString "any" = Str.ofString "name") = False := eq_false (by decide +kernel)
@[simp] theorem sn_any_not : (Str.ofString "any" = Str.ofString "not") = False := eq_false (by decide +kernel)
@[simp] theorem sn_any_num : (Str.ofString "any" = Str.ofString "num") = False := eq_false (by decide +kernel)
@[simp] theorem sn_any_pick : (Str.ofString "any" = Str.ofString "pick") = False := eq_false (by decide +kernel)
@[simp] theorem sn_any_quo : (Str.ofString "any" = Str.ofString "quo") = False := eq_false (by decide +kernel)
@[simp] theorem sn_any_same : (Str.ofString "any" = Str.ofString "same") = False := eq_false (by decide +kernel)
@[simp] theorem sn_any_sub : (Str.ofString "any" = Str.ofString "sub") = False := eq_false (by decide +kernel)
@[simp] theorem sn_ask_draw : (Str.ofString "ask" = Str.ofString "draw") = False := eq_false (by decide +kernel)
@[simp] theorem sn_ask_flat : (Str.ofString "ask" = Str.ofString "flat") = False := eq_false (by decide +kernel)
@[simp] theorem sn_ask_if : (Str.ofString "ask" = Str.ofString "if") = False := eq_false (by decide +kernel)
@[simp] theorem sn_ask_on : (Str.ofString "ask" = Str.ofString "on") = False := eq_false (by decide +kernel)
@[simp] theorem sn_ask_parts : (Str.ofString "ask" = Str.ofString "parts") = False := eq_false (by decide +kernel)
@[simp] theorem sn_ask_pick : (Str.ofString "ask" = Str.ofString "pick") = False := eq_false (by decide +kernel)
@[simp] theorem sn_both_add : (Str.ofString "both" = Str.ofString "add") = False := eq_false (by decide +kernel)
@[simp] theorem sn_both_all : (Str.ofString "both" = Str.ofString "all") = False := eq_false (by decide +kernel)
@[simp] theorem sn_both_any : (Str.ofString "both" = Str.ofString "any") = False := eq_false (by decide +kernel)
@[simp] theorem sn_both_cap : (Str.ofString "both" = Str.ofString "cap") = False := eq_false (by decide +kernel)
@[simp] theorem sn_both_field : (Str.ofString "both" = Str.ofString "field") = False := eq_false (by decide +kernel)
@[simp] theorem sn_both_keep : (Str.ofString "both" = Str.ofString "keep") = False := eq_false (by decide +kernel)
@[simp] theorem sn_both_less : (Str.ofString "both" = Str.ofString "less") = False := eq_false (by decide +kernel)
@[simp] theorem sn_both_match : (Str.ofString "both" = Str.ofString "match") = False := eq_false (by decide +kernel)
@[simp] theorem sn_both_mul : (Str.ofString "both" = Str.ofString "mul") = False := eq_false (by decide +kernel)
@[simp] theorem sn_both_name : (Str.ofString "both" = Str.ofString "name") = False := eq_false (by decide +kernel)
@[simp] theorem sn_both_not : (Str.ofString "both" = Str.ofString "not") = False := eq_false (by decide +kernel)
@[simp] theorem sn_both_num : (Str.ofString "both" = Str.ofString "num") = False := eq_false (by decide +kernel)
@[simp] theorem sn_both_pick : (Str.ofString "both" = Str.ofString "pick") = False := eq_false (by decide +kernel)
@[simp] theorem sn_both_quo : (Str.ofString "both" = Str.ofString "quo") = False := eq_false (by decide +kernel)
@[simp] theorem sn_both_rows : (Str.ofString "both" = Str.ofString "rows") = False := eq_false (by decide +kernel)
@[simp] theorem sn_both_same : (Str.ofString "both" = Str.ofString "same") = False := eq_false (by decide +kernel)
@[simp] theorem sn_both_sub : (Str.ofString "both" = Str.ofString "sub") = False := eq_false (by decide +kernel)
@[simp] theorem sn_both_unlike : (Str.ofString "both" = Str.ofString "unlike") = False := eq_false (by decide +kernel)
@[simp] theorem sn_cap_all : (Str.ofString "cap" = Str.ofString "all") = False := eq_false (by decide +kernel)
@[simp] theorem sn_cap_both : (Str.ofString "cap" = Str.ofString "both") = False := eq_false (by decide +kernel)
@[simp] theorem sn_cap_keep : (Str.ofString "cap" = Str.ofString "keep") = False := eq_false (by decide +kernel)
@[simp] theorem sn_cap_match : (Str.ofString "cap" = Str.ofString "match") = False := eq_false (by decide +kernel)
@[simp] theorem sn_cap_rows : (Str.ofString "cap" = Str.ofString "rows") = False := eq_false (by decide +kernel)
@[simp] theorem sn_cap_unlike : (Str.ofString "cap" = Str.ofString "unlike") = False := eq_false (by decide +kernel)
@[simp] theorem sn_count_kinds : (Str.ofString "count" = Str.ofString "kinds") = False := eq_false (by decide +kernel)
@[simp] theorem sn_count_sum : (Str.ofString "count" = Str.ofString "sum") = False := eq_false (by decide +kernel)
@[simp] theorem sn_draw_ask : (Str.ofString "draw" = Str.ofString "ask") = False := eq_false (by decide +kernel)
@[simp] theorem sn_draw_flat : (Str.ofString "draw" = Str.ofString "flat") = False := eq_false (by decide +kernel)
@[simp] theorem sn_draw_if : (Str.ofString "draw" = Str.ofString "if") = False := eq_false (by decide +kernel)
@[simp] theorem sn_draw_on : (Str.ofString "draw" = Str.ofString "on") = False := eq_false (by decide +kernel)
@[simp] theorem sn_draw_parts : (Str.ofString "draw" = Str.ofString "parts") = False := eq_false (by decide +kernel)
@[simp] theorem sn_draw_pick : (Str.ofString "draw" = Str.ofString "pick") = False := eq_false (by decide +kernel)
@[simp] theorem sn_field_add : (Str.ofString "field" = Str.ofString "add") = False := eq_false (by decide +kernel)
@[simp] theorem sn_field_any : (Str.ofString "field" = Str.ofString "any") = False := eq_false (by decide +kernel)
@[simp] theorem sn_field_both : (Str.ofString "field" = Str.ofString "both") = False := eq_false (by decide +kernel)
@[simp] theorem sn_field_less : (Str.ofString "field" = Str.ofString "less") = False := eq_false (by decide +kernel)
@[simp] theorem sn_field_mul : (Str.ofString "field" = Str.ofString "mul") = False := eq_false (by decide +kernel)
@[simp] theorem sn_field_name : (Str.ofString "field" = Str.ofString "name") = False := eq_false (by decide +kernel)
@[simp] theorem sn_field_not : (Str.ofString "field" = Str.ofString "not") = False := eq_false (by decide +kernel)
@[simp] theorem sn_field_num : (Str.ofString "field" = Str.ofString "num") = False := eq_false (by decide +kernel)
@[simp] theorem sn_field_pick : (Str.ofString "field" = Str.ofString "pick") = False := eq_false (by decide +kernel)
@[simp] theorem sn_field_quo : (Str.ofString "field" = Str.ofString "quo") = False := eq_false (by decide +kernel)
@[simp] theorem sn_field_same : (Str.ofString "field" = Str.ofString "same") = False := eq_false (by decide +kernel)
@[simp] theorem sn_field_sub : (Str.ofString "field" = Str.ofString "sub") = False := eq_false (by decide +kernel)
@[simp] theorem sn_flat_ask : (Str.ofString "flat" = Str.ofString "ask") = False := eq_false (by decide +kernel)
@[simp] theorem sn_flat_draw : (Str.ofString "flat" = Str.ofString "draw") = False := eq_false (by decide +kernel)
@[simp] theorem sn_flat_if : (Str.ofString "flat" = Str.ofString "if") = False := eq_false (by decide +kernel)
@[simp] theorem sn_flat_on : (Str.ofString "flat" = Str.ofString "on") = False := eq_false (by decide +kernel)
@[simp] theorem sn_flat_parts : (Str.ofString "flat" = Str.ofString "parts") = False := eq_false (by decide +kernel)
@[simp] theorem sn_flat_pick : (Str.ofString "flat" = Str.ofString "pick") = False := eq_false (by decide +kernel)
@[simp] theorem sn_if_ask : (Str.ofString "if" = Str.ofString "ask") = False := eq_false (by decide +kernel)
@[simp] theorem sn_if_draw : (Str.ofString "if" = Str.ofString "draw") = False := eq_false (by decide +kernel)
@[simp] theorem sn_if_flat : (Str.ofString "if" = Str.ofString "flat") = False := eq_false (by decide +kernel)
@[simp] theorem sn_if_on : (Str.ofString "if" = Str.ofString "on") = False := eq_false (by decide +kernel)
@[simp] theorem sn_if_parts : (Str.ofString "if" = Str.ofString "parts") = False := eq_false (by decide +kernel)
@[simp] theorem sn_if_pick : (Str.ofString "if" = Str.ofString "pick") = False := eq_false (by decide +kernel)
@[simp] theorem sn_keep_all : (Str.ofString "keep" = Str.ofString "all") = False := eq_false (by decide +kernel)
@[simp] theorem sn_keep_both : (Str.ofString "keep" = Str.ofString "both") = False := eq_false (by decide +kernel)
@[simp] theorem sn_keep_cap : (Str.ofString "keep" = Str.ofString "cap") = False := eq_false (by decide +kernel)
@[simp] theorem sn_keep_match : (Str.ofString "keep" = Str.ofString "match") = False := eq_false (by decide +kernel)
@[simp] theorem sn_keep_rows : (Str.ofString "keep" = Str.ofString "rows") = False := eq_false (by decide +kernel)
@[simp] theorem sn_keep_unlike : (Str.ofString "keep" = Str.ofString "unlike") = False := eq_false (by decide +kernel)
@[simp] theorem sn_kinds_count : (Str.ofString "kinds" = Str.ofString "count") = False := eq_false (by decide +kernel)
@[simp] theorem sn_kinds_sum : (Str.ofString "kinds" = Str.ofString "sum") = False := eq_false (by decide +kernel)
@[simp] theorem sn_less_add : (Str.ofString "less" = Str.ofString "add") = False := eq_false (by decide +kernel)
@[simp] theorem sn_less_any : (Str.ofString "less" = Str.ofString "any") = False := eq_false (by decide +kernel)
@[simp] theorem sn_less_both : (Str.ofString "less" = Str.ofString "both") = False := eq_false (by decide +kernel)
@[simp] theorem sn_less_field : (Str.ofString "less" = Str.ofString "field") = False := eq_false (by decide +kernel)
@[simp] theorem sn_less_mul : (Str.ofString "less" = Str.ofString "mul") = False := eq_false (by decide +kernel)
@[simp] theorem sn_less_name : (Str.ofString "less" = Str.ofString "name") = False := eq_false (by decide +kernel)
@[simp] theorem sn_less_not : (Str.ofString "less" = Str.ofString "not") = False := eq_false (by decide +kernel)
@[simp] theorem sn_less_num : (Str.ofString "less" = Str.ofString "num") = False := eq_false (by decide +kernel)
@[simp] theorem sn_less_pick : (Str.ofString "less" = Str.ofString "pick") = False := eq_false (by decide +kernel)
@[simp] theorem sn_less_quo : (Str.ofString "less" = Str.ofString "quo") = False := eq_false (by decide +kernel)
@[simp] theorem sn_less_same : (Str.ofString "less" = Str.ofString "same") = False := eq_false (by decide +kernel)
@[simp] theorem sn_less_sub : (Str.ofString "less" = Str.ofString "sub") = False := eq_false (by decide +kernel)
@[simp] theorem sn_match_all : (Str.ofString "match" = Str.ofString "all") = False := eq_false (by decide +kernel)
@[simp] theorem sn_match_both : (Str.ofString "match" = Str.ofString "both") = False := eq_false (by decide +kernel)
@[simp] theorem sn_match_cap : (Str.ofString "match" = Str.ofString "cap") = False := eq_false (by decide +kernel)
@[simp] theorem sn_match_keep : (Str.ofString "match" = Str.ofString "keep") = False := eq_false (by decide +kernel)
@[simp] theorem sn_match_rows : (Str.ofString "match" = Str.ofString "rows") = False := eq_false (by decide +kernel)
@[simp] theorem sn_match_unlike : (Str.ofString "match" = Str.ofString "unlike") = False := eq_false (by decide +kernel)
@[simp] theorem sn_mul_add : (Str.ofString "mul" = Str.ofString "add") = False := eq_false (by decide +kernel)
@[simp] theorem sn_mul_any : (Str.ofString "mul" = Str.ofString "any") = False := eq_false (by decide +kernel)
@[simp] theorem sn_mul_both : (Str.ofString "mul" = Str.ofString "both") = False := eq_false (by decide +kernel)
@[simp] theorem sn_mul_field : (Str.ofString "mul" = Str.ofString "field") = False := eq_false (by decide +kernel)
@[simp] theorem sn_mul_less : (Str.ofString "mul" = Str.ofString "less") = False := eq_false (by decide +kernel)
@[simp] theorem sn_mul_name : (Str.ofString "mul" = Str.ofString "name") = False := eq_false (by decide +kernel)
@[simp] theorem sn_mul_not : (Str.ofString "mul" = Str.ofString "not") = False := eq_false (by decide +kernel)
@[simp] theorem sn_mul_num : (Str.ofString "mul" = Str.ofString "num") = False := eq_false (by decide +kernel)
@[simp] theorem sn_mul_pick : (Str.ofString "mul" = Str.ofString "pick") = False := eq_false (by decide +kernel)
@[simp] theorem sn_mul_quo : (Str.ofString "mul" = Str.ofString "quo") = False := eq_false (by decide +kernel)
@[simp] theorem sn_mul_same : (Str.ofString "mul" = Str.ofString "same") = False := eq_false (by decide +kernel)
@[simp] theorem sn_mul_sub : (Str.ofString "mul" = Str.ofString "sub") = False := eq_false (by decide +kernel)
@[simp] theorem sn_name_add : (Str.ofString "name" = Str.ofString "add") = False := eq_false (by decide +kernel)
@[simp] theorem sn_name_any : (Str.ofString "name" = Str.ofString "any") = False := eq_false (by decide +kernel)
@[simp] theorem sn_name_both : (Str.ofString "name" = Str.ofString "both") = False := eq_false (by decide +kernel)
@[simp] theorem sn_name_field : (Str.ofString "name" = Str.ofString "field") = False := eq_false (by decide +kernel)
@[simp] theorem sn_name_less : (Str.ofString "name" = Str.ofString "less") = False := eq_false (by decide +kernel)
@[simp] theorem sn_name_mul : (Str.ofString "name" = Str.ofString "mul") = False := eq_false (by decide +kernel)
@[simp] theorem sn_name_not : (Str.ofString "name" = Str.ofString "not") = False := eq_false (by decide +kernel)
@[simp] theorem sn_name_num : (Str.ofString "name" = Str.ofString "num") = False := eq_false (by decide +kernel)
@[simp] theorem sn_name_pick : (Str.ofString "name" = Str.ofString "pick") = False := eq_false (by decide +kernel)
@[simp] theorem sn_name_quo : (Str.ofString "name" = Str.ofString "quo") = False := eq_false (by decide +kernel)
@[simp] theorem sn_name_same : (Str.ofString "name" = Str.ofString "same") = False := eq_false (by decide +kernel)
@[simp] theorem sn_name_sub : (Str.ofString "name" = Str.ofString "sub") = False := eq_false (by decide +kernel)
@[simp] theorem sn_not_add : (Str.ofString "not" = Str.ofString "add") = False := eq_false (by decide +kernel)
@[simp] theorem sn_not_any : (Str.ofString "not" = Str.ofString "any") = False := eq_false (by decide +kernel)
@[simp] theorem sn_not_both : (Str.ofString "not" = Str.ofString "both") = False := eq_false (by decide +kernel)
@[simp] theorem sn_not_field : (Str.ofString "not" = Str.ofString "field") = False := eq_false (by decide +kernel)
@[simp] theorem sn_not_less : (Str.ofString "not" = Str.ofString "less") = False := eq_false (by decide +kernel)
@[simp] theorem sn_not_mul : (Str.ofString "not" = Str.ofString "mul") = False := eq_false (by decide +kernel)
@[simp] theorem sn_not_name : (Str.ofString "not" = Str.ofString "name") = False := eq_false (by decide +kernel)
@[simp] theorem sn_not_num : (Str.ofString "not" = Str.ofString "num") = False := eq_false (by decide +kernel)
@[simp] theorem sn_not_pick : (Str.ofString "not" = Str.ofString "pick") = False := eq_false (by decide +kernel)
@[simp] theorem sn_not_quo : (Str.ofString "not" = Str.ofString "quo") = False := eq_false (by decide +kernel)
@[simp] theorem sn_not_same : (Str.ofString "not" = Str.ofString "same") = False := eq_false (by decide +kernel)
@[simp] theorem sn_not_sub : (Str.ofString "not" = Str.ofString "sub") = False := eq_false (by decide +kernel)
@[simp] theorem sn_num_add : (Str.ofString "num" = Str.ofString "add") = False := eq_false (by decide +kernel)
@[simp] theorem sn_num_any : (Str.ofString "num" = Str.ofString "any") = False := eq_false (by decide +kernel)
@[simp] theorem sn_num_both : (Str.ofString "num" = Str.ofString "both") = False := eq_false (by decide +kernel)
@[simp] theorem sn_num_field : (Str.ofString "num" = Str.ofString "field") = False := eq_false (by decide +kernel)
@[simp] theorem sn_num_less : (Str.ofString "num" = Str.ofString "less") = False := eq_false (by decide +kernel)
@[simp] theorem sn_num_mul : (Str.ofString "num" = Str.ofString "mul") = False := eq_false (by decide +kernel)
@[simp] theorem sn_num_name : (Str.ofString "num" = Str.ofString "name") = False := eq_false (by decide +kernel)
@[simp] theorem sn_num_not : (Str.ofString "num" = Str.ofString "not") = False := eq_false (by decide +kernel)
@[simp] theorem sn_num_pick : (Str.ofString "num" = Str.ofString "pick") = False := eq_false (by decide +kernel)
@[simp] theorem sn_num_quo : (Str.ofString "num" = Str.ofString "quo") = False := eq_false (by decide +kernel)
@[simp] theorem sn_num_same : (Str.ofString "num" = Str.ofString "same") = False := eq_false (by decide +kernel)
@[simp] theorem sn_num_sub : (Str.ofString "num" = Str.ofString "sub") = False := eq_false (by decide +kernel)
@[simp] theorem sn_on_ask : (Str.ofString "on" = Str.ofString "ask") = False := eq_false (by decide +kernel)
@[simp] theorem sn_on_draw : (Str.ofString "on" = Str.ofString "draw") = False := eq_false (by decide +kernel)
@[simp] theorem sn_on_flat : (Str.ofString "on" = Str.ofString "flat") = False := eq_false (by decide +kernel)
@[simp] theorem sn_on_if : (Str.ofString "on" = Str.ofString "if") = False := eq_false (by decide +kernel)
@[simp] theorem sn_on_parts : (Str.ofString "on" = Str.ofString "parts") = False := eq_false (by decide +kernel)
@[simp] theorem sn_on_pick : (Str.ofString "on" = Str.ofString "pick") = False := eq_false (by decide +kernel)
@[simp] theorem sn_parts_ask : (Str.ofString "parts" = Str.ofString "ask") = False := eq_false (by decide +kernel)
@[simp] theorem sn_parts_draw : (Str.ofString "parts" = Str.ofString "draw") = False := eq_false (by decide +kernel)
@[simp] theorem sn_parts_flat : (Str.ofString "parts" = Str.ofString "flat") = False := eq_false (by decide +kernel)
@[simp] theorem sn_parts_if : (Str.ofString "parts" = Str.ofString "if") = False := eq_false (by decide +kernel)
@[simp] theorem sn_parts_on : (Str.ofString "parts" = Str.ofString "on") = False := eq_false (by decide +kernel)
@[simp] theorem sn_parts_pick : (Str.ofString "parts" = Str.ofString "pick") = False := eq_false (by decide +kernel)
@[simp] theorem sn_pick_add : (Str.ofString "pick" = Str.ofString "add") = False := eq_false (by decide +kernel)
@[simp] theorem sn_pick_any : (Str.ofString "pick" = Str.ofString "any") = False := eq_false (by decide +kernel)
@[simp] theorem sn_pick_ask : (Str.ofString "pick" = Str.ofString "ask") = False := eq_false (by decide +kernel)
@[simp] theorem sn_pick_both : (Str.ofString "pick" = Str.ofString "both") = False := eq_false (by decide +kernel)
@[simp] theorem sn_pick_draw : (Str.ofString "pick" = Str.ofString "draw") = False := eq_false (by decide +kernel)
@[simp] theorem sn_pick_field : (Str.ofString "pick" = Str.ofString "field") = False := eq_false (by decide +kernel)
@[simp] theorem sn_pick_flat : (Str.ofString "pick" = Str.ofString "flat") = False := eq_false (by decide +kernel)
@[simp] theorem sn_pick_if : (Str.ofString "pick" = Str.ofString "if") = False := eq_false (by decide +kernel)
@[simp] theorem sn_pick_less : (Str.ofString "pick" = Str.ofString "less") = False := eq_false (by decide +kernel)
@[simp] theorem sn_pick_mul : (Str.ofString "pick" = Str.ofString "mul") = False := eq_false (by decide +kernel)
@[simp] theorem sn_pick_name : (Str.ofString "pick" = Str.ofString "name") = False := eq_false (by decide +kernel)
@[simp] theorem sn_pick_not : (Str.ofString "pick" = Str.ofString "not") = False := eq_false (by decide +kernel)
@[simp] theorem sn_pick_num : (Str.ofString "pick" = Str.ofString "num") = False := eq_false (by decide +kernel)
@[simp] theorem sn_pick_on : (Str.ofString "pick" = Str.ofString "on") = False := eq_false (by decide +kernel)
@[simp] theorem sn_pick_parts : (Str.ofString "pick" = Str.ofString "parts") = False := eq_false (by decide +kernel)
@[simp] theorem sn_pick_quo : (Str.ofString "pick" = Str.ofString "quo") = False := eq_false (by decide +kernel)
@[simp] theorem sn_pick_same : (Str.ofString "pick" = Str.ofString "same") = False := eq_false (by decide +kernel)
@[simp] theorem sn_pick_sub : (Str.ofString "pick" = Str.ofString "sub") = False := eq_false (by decide +kernel)
@[simp] theorem sn_quo_add : (Str.ofString "quo" = Str.ofString "add") = False := eq_false (by decide +kernel)
@[simp] theorem sn_quo_any : (Str.ofString "quo" = Str.ofString "any") = False := eq_false (by decide +kernel)
@[simp] theorem sn_quo_both : (Str.ofString "quo" = Str.ofString "both") = False := eq_false (by decide +kernel)
@[simp] theorem sn_quo_field : (Str.ofString "quo" = Str.ofString "field") = False := eq_false (by decide +kernel)
@[simp] theorem sn_quo_less : (Str.ofString "quo" = Str.ofString "less") = False := eq_false (by decide +kernel)
@[simp] theorem sn_quo_mul : (Str.ofString "quo" = Str.ofString "mul") = False := eq_false (by decide +kernel)
@[simp] theorem sn_quo_name : (Str.ofString "quo" = Str.ofString "name") = False := eq_false (by decide +kernel)
@[simp] theorem sn_quo_not : (Str.ofString "quo" = Str.ofString "not") = False := eq_false (by decide +kernel)
@[simp] theorem sn_quo_num : (Str.ofString "quo" = Str.ofString "num") = False := eq_false (by decide +kernel)
@[simp] theorem sn_quo_pick : (Str.ofString "quo" = Str.ofString "pick") = False := eq_false (by decide +kernel)
@[simp] theorem sn_quo_same : (Str.ofString "quo" = Str.ofString "same") = False := eq_false (by decide +kernel)
@[simp] theorem sn_quo_sub : (Str.ofString "quo" = Str.ofString "sub") = False := eq_false (by decide +kernel)
@[simp] theorem sn_rows_all : (Str.ofString "rows" = Str.ofString "all") = False := eq_false (by decide +kernel)
@[simp] theorem sn_rows_both : (Str.ofString "rows" = Str.ofString "both") = False := eq_false (by decide +kernel)
@[simp] theorem sn_rows_cap : (Str.ofString "rows" = Str.ofString "cap") = False := eq_false (by decide +kernel)
@[simp] theorem sn_rows_keep : (Str.ofString "rows" = Str.ofString "keep") = False := eq_false (by decide +kernel)
@[simp] theorem sn_rows_match : (Str.ofString "rows" = Str.ofString "match") = False := eq_false (by decide +kernel)
@[simp] theorem sn_rows_unlike : (Str.ofString "rows" = Str.ofString "unlike") = False := eq_false (by decide +kernel)
@[simp] theorem sn_same_add : (Str.ofString "same" = Str.ofString "add") = False := eq_false (by decide +kernel)
@[simp] theorem sn_same_any : (Str.ofString "same" = Str.ofString "any") = False := eq_false (by decide +kernel)
@[simp] theorem sn_same_both : (Str.ofString "same" = Str.ofString "both") = False := eq_false (by decide +kernel)
@[simp] theorem sn_same_field : (Str.ofString "same" = Str.ofString "field") = False := eq_false (by decide +kernel)
@[simp] theorem sn_same_less : (Str.ofString "same" = Str.ofString "less") = False := eq_false (by decide +kernel)
@[simp] theorem sn_same_mul : (Str.ofString "same" = Str.ofString "mul") = False := eq_false (by decide +kernel)
@[simp] theorem sn_same_name : (Str.ofString "same" = Str.ofString "name") = False := eq_false (by decide +kernel)
@[simp] theorem sn_same_not : (Str.ofString "same" = Str.ofString "not") = False := eq_false (by decide +kernel)
@[simp] theorem sn_same_num : (Str.ofString "same" = Str.ofString "num") = False := eq_false (by decide +kernel)
@[simp] theorem sn_same_pick : (Str.ofString "same" = Str.ofString "pick") = False := eq_false (by decide +kernel)
@[simp] theorem sn_same_quo : (Str.ofString "same" = Str.ofString "quo") = False := eq_false (by decide +kernel)
@[simp] theorem sn_same_sub : (Str.ofString "same" = Str.ofString "sub") = False := eq_false (by decide +kernel)
@[simp] theorem sn_sub_add : (Str.ofString "sub" = Str.ofString "add") = False := eq_false (by decide +kernel)
@[simp] theorem sn_sub_any : (Str.ofString "sub" = Str.ofString "any") = False := eq_false (by decide +kernel)
@[simp] theorem sn_sub_both : (Str.ofString "sub" = Str.ofString "both") = False := eq_false (by decide +kernel)
@[simp] theorem sn_sub_field : (Str.ofString "sub" = Str.ofString "field") = False := eq_false (by decide +kernel)
@[simp] theorem sn_sub_less : (Str.ofString "sub" = Str.ofString "less") = False := eq_false (by decide +kernel)
@[simp] theorem sn_sub_mul : (Str.ofString "sub" = Str.ofString "mul") = False := eq_false (by decide +kernel)
@[simp] theorem sn_sub_name : (Str.ofString "sub" = Str.ofString "name") = False := eq_false (by decide +kernel)
@[simp] theorem sn_sub_not : (Str.ofString "sub" = Str.ofString "not") = False := eq_false (by decide +kernel)
@[simp] theorem sn_sub_num : (Str.ofString "sub" = Str.ofString "num") = False := eq_false (by decide +kernel)
@[simp] theorem sn_sub_pick : (Str.ofString "sub" = Str.ofString "pick") = False := eq_false (by decide +kernel)
@[simp] theorem sn_sub_quo : (Str.ofString "sub" = Str.ofString "quo") = False := eq_false (by decide +kernel)
@[simp] theorem sn_sub_same : (Str.ofString "sub" = Str.ofString "same") = False := eq_false (by decide +kernel)
@[simp] theorem sn_sum_count : (Str.ofString "sum" = Str.ofString "count") = False := eq_false (by decide +kernel)
@[simp] theorem sn_sum_kinds : (Str.ofString "sum" = Str.ofString "kinds") = False := eq_false (by decide +kernel)
@[simp] theorem sn_unlike_all : (Str.ofString "unlike" = Str.ofString "all") = False := eq_false (by decide +kernel)
@[simp] theorem sn_unlike_both : (Str.ofString "unlike" = Str.ofString "both") = False := eq_false (by decide +kernel)
@[simp] theorem sn_unlike_cap : (Str.ofString "unlike" = Str.ofString "cap") = False := eq_false (by decide +kernel)
@[simp] theorem sn_unlike_keep : (Str.ofString "unlike" = Str.ofString "keep") = False := eq_false (by decide +kernel)
@[simp] theorem sn_unlike_match : (Str.ofString "unlike" = Str.ofString "match") = False := eq_false (by decide +kernel)
@[simp] theorem sn_unlike_rows : (Str.ofString "unlike" = Str.ofString "rows") = False := eq_false (by decide +kernel)
theorem dIx_p0 (xs : List D) (a : D) : dIx (.tup (a :: xs)) (.int 0) = .ok a := by
  have : atI (a :: xs) 0 = some a := by simp [atI, ixN]
  show (match atI (a :: xs) 0 with | some d => Res.ok d | none => .bad) = _
  rw [this]
theorem dIx_p1 (xs : List D) (a b : D) : dIx (.tup (a :: b :: xs)) (.int 1) = .ok b := by
  have : atI (a :: b :: xs) 1 = some b := by
    have : (1 : Int) < ((xs.length : Nat) : Int) + 1 + 1 := by omega
    simp [atI, ixN, this]
  show (match atI (a :: b :: xs) 1 with | some d => Res.ok d | none => .bad) = _
  rw [this]
theorem dIx_p2 (xs : List D) (a b c : D) : dIx (.tup (a :: b :: c :: xs)) (.int 2) = .ok c := by
  have : atI (a :: b :: c :: xs) 2 = some c := by
    have : (2 : Int) < ((xs.length : Nat) : Int) + 1 + 1 + 1 := by omega
    simp [atI, ixN, this]
  show (match atI (a :: b :: c :: xs) 2 with | some d => Res.ok d | none => .bad) = _
  rw [this]
theorem dIx_p3 (xs : List D) (a b c d : D) : dIx (.tup (a :: b :: c :: d :: xs)) (.int 3) = .ok d := by
  have : atI (a :: b :: c :: d :: xs) 3 = some d := by
    have : (3 : Int) < ((xs.length : Nat) : Int) + 1 + 1 + 1 + 1 := by omega
    simp [atI, ixN, this]
  show (match atI (a :: b :: c :: d :: xs) 3 with | some d => Res.ok d | none => .bad) = _
  rw [this]
@[simp] theorem rawB_bl' (b : Bool) : rawB (.ok (.bl b)) = .ok b := rfl
theorem has_strs (x : Str) (xs : List Str) : D.has (xs.map D.str) (.str x) = decide (x ∈ xs) := by
  unfold D.has
  induction xs with
  | nil => rfl
  | cons a xs ih =>
    rw [List.map_cons, List.any_cons, ih]
    simp only [D.beq, D.py, PyData.eqv, List.mem_cons]
    by_cases e : a = x
    · subst e; simp
    · have : ¬ x = a := fun z => e z.symm
      simp [e, this]
theorem pls_strs {xs : List Str} (h : ∀ x ∈ xs, PyData.strOk x = true) (n : Nat) : D.pls (xs.map D.str) n = true := pls_all fun d hd => by
  obtain ⟨x, hx, rfl⟩ := List.mem_map.mp hd
  simpa [D.pl] using h x hx
theorem dInA_con {no : Bool} {x : Str} {xs : List Str} (hx : PyData.strOk x = true) (h : ∀ x ∈ xs, PyData.strOk x = true) : dInA no (.str x) (.con (xs.map D.str)) = .ok (.bl (decide (x ∈ xs) != no)) := by
  show (if (D.str x).pl 50 = true ∧ D.pls (xs.map D.str) 50 = true then Res.ok (D.bl (D.has (xs.map D.str) (.str x) != no)) else .bad) = _
  rw [if_pos ⟨by simpa [D.pl] using hx, pls_strs h 50⟩, has_strs]
theorem dInA_tup {no : Bool} {x : Str} {xs : List Str} (hx : PyData.strOk x = true) (h : ∀ x ∈ xs, PyData.strOk x = true) : dInA no (.str x) (.tup (xs.map D.str)) = .ok (.bl (decide (x ∈ xs) != no)) := by
  show (if (D.str x).pl 50 = true ∧ D.pls (xs.map D.str) 50 = true then Res.ok (D.bl (D.has (xs.map D.str) (.str x) != no)) else .bad) = _
  rw [if_pos ⟨by simpa [D.pl] using hx, pls_strs h 50⟩, has_strs]
theorem ask_in {x : Str} (hx : PyData.strOk x = true) : dInA false (.str x) (.con [.str "ask", .str "flat", .str "pick"]) = .ok (.bl (decide (x = "ask" ∨ x = "flat" ∨ x = "pick"))) := by
  have := dInA_con (no := false) (xs := ["ask", "flat", "pick"]) hx (by decide +kernel)
  rw [show [D.str "ask", D.str "flat", D.str "pick"] = ([("ask" : Str), "flat", "pick"]).map D.str from rfl, this]
  simp
theorem comp_map {α β γ : Type} {f : β → Res γ} {h : α → β} {g : α → γ} {l : List α} (hl : l.length ≤ 10000000) (k : ∀ a ∈ l, f (h a) = .ok (g a)) : DL.compR (l.map h) f = .ok (l.map g) := by
  have : ∀ l : List α, (∀ a ∈ l, f (h a) = .ok (g a)) → DL.mapR (l.map h) f = .ok (l.map g) := by
    intro l
    induction l with
    | nil => intro _; rfl
    | cons a l ih => intro k; rw [List.map_cons, DL.mapR, k a List.mem_cons_self, ih fun x hx => k x (List.mem_cons_of_mem _ hx)]; rfl
  unfold DL.compR
  rw [if_pos (fits_of (by rw [List.length_map]; exact hl)), this l k]
  rfl
theorem mul_nat {x y : Nat} (hx : x ≤ 1000000) (hy : y ≤ 1000000) : mulR (x : Int) (y : Int) = .ok ((x * y : Nat) : Int) := by rw [mulR_s (by omega) (by omega) (by omega) (by omega), Int.natCast_mul]
theorem le_of_mul {x y n : Nat} (h : x * y ≤ n) (hy : 1 ≤ y) : x ≤ n := Nat.le_trans (Nat.le_mul_of_pos_right _ hy) h
theorem dIx_p4 (xs : List D) (a b c d e : D) : dIx (.tup (a :: b :: c :: d :: e :: xs)) (.int 4) = .ok e := by
  have : atI (a :: b :: c :: d :: e :: xs) 4 = some e := by
    have : (4 : Int) < ((xs.length : Nat) : Int) + 1 + 1 + 1 + 1 + 1 := by omega
    simp [atI, ixN, this]
  show (match atI (a :: b :: c :: d :: e :: xs) 4 with | some d => Res.ok d | none => .bad) = _
  rw [this]
theorem dIx_p5 (xs : List D) (a b c d e f : D) : dIx (.tup (a :: b :: c :: d :: e :: f :: xs)) (.int 5) = .ok f := by
  have : atI (a :: b :: c :: d :: e :: f :: xs) 5 = some f := by
    have : (5 : Int) < ((xs.length : Nat) : Int) + 1 + 1 + 1 + 1 + 1 + 1 := by omega
    simp [atI, ixN, this]
  show (match atI (a :: b :: c :: d :: e :: f :: xs) 5 with | some d => Res.ok d | none => .bad) = _
  rw [this]
/-! ### terms of any depth; what is no term -/
theorem headed_ok (s : Str) (r : List D) : t_headed (.tup (.str s :: r)) = .ok true := by
  unfold t_headed
  have : (0 : Int) < ((r.length : Nat) : Int) + 1 := by omega
  simp [DL.isTup, DL.isStr, dLen, D.asI, dIx_p0, this]
theorem between_val (i lo hi : Int) : t_lies_between (.int i) lo hi = .ok (decide (lo ≤ i ∧ i ≤ hi)) := by
  unfold t_lies_between t_is_whole
  by_cases h1 : lo ≤ i <;> by_cases h2 : i ≤ hi <;> simp [DL.isInt, DL.isBool, D.tyN, D.asI, h1, h2]
theorem between_no {d : D} (lo hi : Int) (h : rawB (DL.isInt d) = .ok false) : t_lies_between d lo hi = .ok false := by
  unfold t_lies_between t_is_whole
  rw [h]
  rfl
def NameIs (x : Str) (b : Bool) : Prop := t_is_name (.str x) = .ok b
theorem parts_of : ∀ o ∈ (["add", "sub", "less", "same", "mul", "quo", "both", "any"] : List Str), getG k_PARTS o = some 2 := by decide +kernel
theorem parts_not : getG k_PARTS "not" = some 1 := by decide +kernel
theorem parts_pick : getG k_PARTS "pick" = some 3 := by decide +kernel
theorem inC {o : Str} {k : Int} (h : getG k_PARTS o = some k) : dNotInC k_PARTS (.str o) = .ok (.bl false) ∧ dAtC k_PARTS (.str o) = .ok (.int k) := by
  constructor
  · show Res.ok (D.bl (!(getG k_PARTS o).isSome)) = _
    rw [h]; rfl
  · show (match getG k_PARTS o with | some i => Res.ok (D.int i) | none => .bad) = _
    rw [h]
theorem noC {o : Str} (h : getG k_PARTS o = none) : dNotInC k_PARTS (.str o) = .ok (.bl true) := by
  show Res.ok (D.bl (!(getG k_PARTS o).isSome)) = _
  rw [h]; rfl
@[simp] theorem dEq_ss (a b : Str) : rawB (dEq (.str a) (.str b)) = .ok (decide (a = b)) := rfl
@[simp] theorem dNe_ss (a b : Str) : rawB (dNe (.str a) (.str b)) = .ok (!decide (a = b)) := rfl
/-- all parts told: whether all are good -/
theorem comp_all {f : D → Res Bool} {l : List D} {bs : List Bool} (hl : l.length ≤ 10000000) (h : A2 (fun d b => f d = .ok b) l bs) : (DL.compR l f).bind (fun a => .ok (a.all fun b => b)) = .ok (bs.all fun b => b) := by
  have : ∀ {l : List D} {bs : List Bool}, A2 (fun d b => f d = .ok b) l bs → DL.mapR l f = .ok bs := by
    intro l
    induction l with
    | nil => intro bs h; rw [show bs = [] from h]; rfl
    | cons d l ih =>
      rintro _ ⟨b, bs, rfl, h, k⟩
      rw [DL.mapR, h, ih k]
      rfl
  unfold DL.compR
  rw [if_pos (fits_of hl), this h]
  rfl
def NoHd (o : Str) : Prop := o ≠ "num" ∧ o ≠ "field" ∧ o ≠ "name"
theorem fits_op {G : D → Int → Res Bool} {o : Str} {xs : List D} {deep : Int} {bs : List Bool} (hd : deep ≠ 0) (hl : 1 ≤ xs.length ∧ xs.length ≤ 3) (hp : getG k_PARTS o = some (xs.length : Int)) (hn : NoHd o)
    (h : A2 (fun d b => G d (deep - 1) = .ok b) xs bs) : tb_term_fits G (.tup (.str o :: xs)) deep = .ok (bs.all fun b => b) := by
  unfold tb_term_fits
  obtain ⟨p1, p2⟩ := inC hp
  have ln : (dLen (.tup (.str o :: xs))).bind D.asI = .ok ((xs.length : Int) + 1) := rfl
  have l2 : decide ((xs.length : Int) + 1 < 2) = false := by simp; omega
  have cu : dCut (some 1) none (.tup (.str o :: xs)) = .ok (.tup xs) := by
    show Res.ok (D.tup (cutL (D.str o :: xs) (some 1) none)) = _
    rw [show cutL (D.str o :: xs) (some 1) none = xs by unfold cutL; simp [HT.sIx]]
  have it : D.asItems (.tup xs) = .ok xs := rfl
  simp only [hd, if_false, headed_ok, Res.bind_ok, Bool.not_true, Bool.false_eq_true, ln, l2, dIx_p0, dEq_ss, decide_eq_true_eq, hn.1, hn.2.1, hn.2.2, p1, p2, rawB_bl', D.asI, cu, it]
  rw [if_neg (fun z => z (by omega))]
  exact comp_all (by omega) h
theorem fits_leaf {G : D → Int → Res Bool} {o : Str} {d : D} {deep : Int} {b : Bool} (hd : deep ≠ 0) (h : (o = "num" ∧ t_is_number d = .ok b) ∨ (o = "field" ∧ t_lies_between d 0 3 = .ok b) ∨ (o = "name" ∧ t_is_name d = .ok b)) : tb_term_fits G (.tup [.str o, d]) deep = .ok b := by
  have l2 : (dLen (.tup [.str o, d])).bind D.asI = .ok 2 := rfl
  unfold tb_term_fits
  rcases h with ⟨rfl, h⟩ | ⟨rfl, h⟩ | ⟨rfl, h⟩
  · simp [hd, headed_ok, dLen, D.asI, dIx_p0, dIx_p1, h]
  · simp [hd, headed_ok, dLen, D.asI, dIx_p0, dIx_p1, h]
  · simp [hd, headed_ok, dLen, D.asI, dIx_p0, dIx_p1, h]
theorem fits_zero {G : D → Int → Res Bool} (d : D) : tb_term_fits G d 0 = .ok false := by
  unfold tb_term_fits
  simp
/-- a term whose depth is n -/
inductive TmD : Nat → D → Prop
  | num {i : Int} (h : -1000000000000000000 ≤ i ∧ i ≤ 1000000000000000000) : TmD 1 (.tup [.str "num", .int i])
  | field {i : Int} (h : 0 ≤ i ∧ i ≤ 3) : TmD 1 (.tup [.str "field", .int i])
  | name {x : Str} (h : NameIs x true) (k : PyData.strOk x = true) : TmD 1 (.tup [.str "name", .str x])
  | un {n : Nat} {a : D} (h : TmD n a) : TmD (n + 1) (.tup [.str "not", a])
  | bin {n m : Nat} {o : Str} {a b : D} (ho : o ∈ (["add", "sub", "less", "same", "mul", "quo", "both", "any"] : List Str)) (h : TmD n a) (k : TmD m b) : TmD (max n m + 1) (.tup [.str o, a, b])
  | pick {n m l : Nat} {a b c : D} (h : TmD n a) (k : TmD m b) (q : TmD l c) : TmD (max n (max m l) + 1) (.tup [.str "pick", a, b, c])
theorem TmD.pos {n : Nat} {t : D} (h : TmD n t) : 1 ≤ n := by cases h <;> omega
theorem nohd : ∀ o ∈ (["add", "sub", "less", "same", "mul", "quo", "both", "any"] : List Str), NoHd o := by unfold NoHd; decide +kernel
theorem nohd_not : NoHd "not" := by unfold NoHd; decide +kernel
theorem nohd_pick : NoHd "pick" := by unfold NoHd; decide +kernel
/-- what is told of d at each depth: whether it is good, with enough calls to go -/
def FitsAt (d : D) (g : Nat → Bool) : Prop := ∀ (deep i : Nat), u_term_fits (deep + 1 + i) d (deep : Int) = .ok (g deep)
theorem FitsAt.step {d : D} {g : Nat → Bool} (h : FitsAt d g) (deep i : Nat) : u_term_fits (deep + 1 + i) d (((deep + 1 : Nat) : Int) - 1) = .ok (g deep) := by
  rw [show ((deep + 1 : Nat) : Int) - 1 = (deep : Int) by omega]
  exact h deep i
theorem FitsAt.of {d : D} {g : Nat → Bool} (h0 : g 0 = false) (h : ∀ deep i : Nat, tb_term_fits (u_term_fits (deep + 1 + i)) d ((deep + 1 : Nat) : Int) = .ok (g (deep + 1))) : FitsAt d g := by
  intro deep i
  cases deep with
  | zero =>
    rw [show 0 + 1 + i = i + 1 by omega, h0]
    exact fits_zero d
  | succ deep =>
    rw [show deep + 1 + 1 + i = deep + 1 + i + 1 by omega]
    exact h deep i
theorem FitsAt.leaf {o : Str} {d : D} {b : Bool} (h : (o = "num" ∧ t_is_number d = .ok b) ∨ (o = "field" ∧ t_lies_between d 0 3 = .ok b) ∨ (o = "name" ∧ t_is_name d = .ok b)) : FitsAt (.tup [.str o, d]) (fun deep => decide (1 ≤ deep) && b) :=
  .of rfl fun deep i => by
    rw [fits_leaf (by omega) h]
    simp
theorem FitsAt.op {o : Str} {xs : List D} {gs : List (Nat → Bool)} (hl : 1 ≤ xs.length ∧ xs.length ≤ 3) (hp : getG k_PARTS o = some (xs.length : Int)) (hn : NoHd o) (h : A2 FitsAt xs gs) : FitsAt (.tup (.str o :: xs)) (fun deep => decide (1 ≤ deep) && gs.all fun g => g (deep - 1)) :=
  .of rfl fun deep i => by
    have : ∀ {xs : List D} {gs : List (Nat → Bool)}, A2 FitsAt xs gs → A2 (fun d b => u_term_fits (deep + 1 + i) d (((deep + 1 : Nat) : Int) - 1) = .ok b) xs (gs.map fun g => g deep) := by
      intro xs
      induction xs with
      | nil => intro gs h; rw [show gs = [] from h]; rfl
      | cons x xs ih => rintro _ ⟨g, gs, rfl, h, k⟩; exact ⟨_, _, rfl, h.step deep i, ih k⟩
    rw [fits_op (by omega) hl hp hn (this h), List.all_map]
    simp
    rfl
theorem FitsAt.eq {d : D} {g f : Nat → Bool} (h : FitsAt d g) (e : ∀ n, g n = f n) : FitsAt d f := fun deep i => by rw [← e]; exact h deep i
/-- what is no term at any depth -/
def NoT (d : D) : Prop := FitsAt d fun _ => false
theorem NoT.part {o : Str} {xs : List D} {gs : List (Nat → Bool)} (hl : 1 ≤ xs.length ∧ xs.length ≤ 3) (hp : getG k_PARTS o = some (xs.length : Int)) (hn : NoHd o) (h : A2 FitsAt xs gs) (k : (fun _ => false) ∈ gs) : NoT (.tup (.str o :: xs)) :=
  (FitsAt.op hl hp hn h).eq fun n => by
    have : (gs.all fun g => g (n - 1)) = false := by
      rw [List.all_eq_false]
      exact ⟨_, k, by simp⟩
    rw [this, Bool.and_false]
theorem TmD.at {n : Nat} {t : D} (h : TmD n t) : FitsAt t fun deep => decide (n ≤ deep) := by
  induction h with
  | num h =>
    refine (FitsAt.leaf (b := true) (.inl ⟨rfl, ?_⟩)).eq fun n => by simp
    unfold t_is_number
    rw [between_val, decide_eq_true h]
  | field h =>
    refine (FitsAt.leaf (b := true) (.inr (.inl ⟨rfl, ?_⟩))).eq fun n => by simp
    rw [between_val, decide_eq_true h]
  | name h _ => exact (FitsAt.leaf (b := true) (.inr (.inr ⟨rfl, h⟩))).eq fun n => by simp
  | un h ih =>
    refine (FitsAt.op (xs := [_]) (gs := [_]) (by simp) parts_not nohd_not ⟨_, _, rfl, ih, rfl⟩).eq fun k => ?_
    rw [Bool.eq_iff_iff]
    simp
    omega
  | bin ho h k ih ik =>
    refine (FitsAt.op (xs := [_, _]) (gs := [_, _]) (by simp) (parts_of _ ho) (nohd _ ho) ⟨_, _, rfl, ih, _, _, rfl, ik, rfl⟩).eq fun k => ?_
    rw [Bool.eq_iff_iff]
    simp
    omega
  | pick h k q ih ik il =>
    refine (FitsAt.op (xs := [_, _, _]) (gs := [_, _, _]) (by simp) parts_pick nohd_pick ⟨_, _, rfl, ih, _, _, rfl, ik, _, _, rfl, il, rfl⟩).eq fun k => ?_
    rw [Bool.eq_iff_iff]
    simp
    omega
/-! ### what is no term -/
theorem catR_okT {α : Type} {a b : List α} (h : a.length + b.length ≤ 16000000) : catR a b = .ok (a ++ b) := if_pos (show _ ≤ sizeLine by rw [PySem.sizeLine_eq]; omega)
theorem nt_of {d : D} (h : ∀ (G : D → Int → Res Bool) (deep : Int), deep ≠ 0 → tb_term_fits G d deep = .ok false) : NoT d := FitsAt.of rfl fun deep i => h _ _ (by omega)
theorem nt_head {d : D} (h : t_headed d = .ok false) : NoT d := nt_of fun G deep hd => by
  unfold tb_term_fits
  simp [hd, h]
theorem nt_short (s : Str) : NoT (.tup [.str s]) := nt_of fun G deep hd => by
  unfold tb_term_fits
  simp [hd, headed_ok, dLen, D.asI]
theorem nt_leaf {o : Str} {d : D} (h : (o = "num" ∧ t_is_number d = .ok false) ∨ (o = "field" ∧ t_lies_between d 0 3 = .ok false) ∨ (o = "name" ∧ t_is_name d = .ok false)) : NoT (.tup [.str o, d]) := (FitsAt.leaf h).eq fun n => by simp
theorem nt_num3 (a b : D) : NoT (.tup [.str "num", a, b]) := nt_of fun G deep hd => by
  unfold tb_term_fits
  simp [hd, headed_ok, dLen, D.asI, dIx_p0]
theorem nt_word {o : Str} {x : D} {r : List D} (h : getG k_PARTS o = none) (hn : NoHd o) : NoT (.tup (.str o :: x :: r)) := nt_of fun G deep hd => by
  have l2 : decide ((((D.str o :: x :: r).length : Nat) : Int) < 2) = false := by simp; omega
  have ln : (dLen (.tup (.str o :: x :: r))).bind D.asI = .ok (((D.str o :: x :: r).length : Nat) : Int) := rfl
  unfold tb_term_fits
  simp only [hd, if_false, headed_ok, Res.bind_ok, Bool.not_true, Bool.false_eq_true, ln, l2, dIx_p0, dEq_ss, decide_eq_true_eq, hn.1, hn.2.1, hn.2.2, noC h, rawB_bl', if_true]
theorem nt_many {o : Str} {x : D} {r : List D} {k : Int} (h : getG k_PARTS o = some k) (hn : NoHd o) (hk : ((r.length : Nat) : Int) + 1 ≠ k) : NoT (.tup (.str o :: x :: r)) := nt_of fun G deep hd => by
  have l2 : decide ((((D.str o :: x :: r).length : Nat) : Int) < 2) = false := by simp; omega
  have ln : (dLen (.tup (.str o :: x :: r))).bind D.asI = .ok (((D.str o :: x :: r).length : Nat) : Int) := rfl
  obtain ⟨p1, p2⟩ := inC h
  unfold tb_term_fits
  simp only [hd, if_false, headed_ok, Res.bind_ok, Bool.not_true, Bool.false_eq_true, ln, l2, dIx_p0, dEq_ss, decide_eq_true_eq, hn.1, hn.2.1, hn.2.2, p1, p2, rawB_bl', D.asI]
  rw [if_pos (by simp only [List.length_cons]; omega)]
theorem name_val {x : Str} (hl : x.length ≤ 1000) : t_is_name (.str x) = .ok (decide (1 ≤ x.length) && decide (x.length ≤ 8) && x.cps.toList.all fun c => strIn ⟨#[c]⟩ ("abcdefghijklmnopqrstuvwxyz" : Str)) := by
  have ln : (dLen (.str x)).bind D.asI = .ok (x.length : Int) := by
    show (if x.length ≤ sizeLine then Res.ok (D.int (x.length : Int)) else .bad).bind D.asI = _
    rw [if_pos (by rw [PySem.sizeLine_eq]; omega)]
    rfl
  have walk : ∀ cs : List Nat, DL.thenX (DL.forX (cs.map fun c => D.str ⟨#[c]⟩) () (fun sign6 s5 => (rawB ((dInA true) sign6 (D.str ("abcdefghijklmnopqrstuvwxyz" : Str)))).bind fun z => if z = true then Res.ok (.rt false) else Res.ok (.nx ())) : Res (Oc Unit Bool)) (fun v => v) (fun _ => Res.ok true) = .ok (cs.all fun c => strIn ⟨#[c]⟩ ("abcdefghijklmnopqrstuvwxyz" : Str)) := by
    intro cs
    induction cs with
    | nil => rfl
    | cons c cs ih =>
      rw [List.map_cons, List.all_cons]
      have e : rawB (dInA true (.str ⟨#[c]⟩) (D.str ("abcdefghijklmnopqrstuvwxyz" : Str))) = .ok (strIn ⟨#[c]⟩ ("abcdefghijklmnopqrstuvwxyz" : Str) != true) := rfl
      cases hq : strIn ⟨#[c]⟩ ("abcdefghijklmnopqrstuvwxyz" : Str) with
      | true =>
        rw [Bool.true_and, ← ih]
        show DL.thenX (((rawB (dInA true (.str ⟨#[c]⟩) (D.str ("abcdefghijklmnopqrstuvwxyz" : Str)))).bind fun z => (if z = true then Res.ok (Oc.rt false) else Res.ok (Oc.nx ()) : Res (Oc Unit Bool))).bind _) _ _ = _
        rw [e, hq]
        rfl
      | false =>
        rw [Bool.false_and]
        show DL.thenX (((rawB (dInA true (.str ⟨#[c]⟩) (D.str ("abcdefghijklmnopqrstuvwxyz" : Str)))).bind fun z => (if z = true then Res.ok (Oc.rt false) else Res.ok (Oc.nx ()) : Res (Oc Unit Bool))).bind _) _ _ = _
        rw [e, hq]
        rfl
  unfold t_is_name
  have st : rawB (DL.isStr (.str x)) = .ok true := rfl
  rw [st, ln]
  simp only [Res.bind_ok, Bool.not_true, Bool.false_eq_true, if_false]
  by_cases h1 : (x.length : Int) < 1
  · rw [if_pos (decide_eq_true h1), Res.bind_ok, if_pos rfl, decide_eq_false (show ¬ 1 ≤ x.length by omega)]
    rfl
  · rw [if_neg (by simpa using h1)]
    by_cases h8 : (8 : Int) < (x.length : Int)
    · rw [decide_eq_true h8, Res.bind_ok, if_pos rfl, decide_eq_false (show ¬ x.length ≤ 8 by omega)]
      simp
    · rw [decide_eq_false h8, Res.bind_ok, if_neg (by decide), decide_eq_true (show 1 ≤ x.length by omega), decide_eq_true (show x.length ≤ 8 by omega), Bool.true_and, Bool.true_and, ← walk x.cps.toList]
      rfl
theorem name_str {x : Str} {b : Bool} (hl : x.length ≤ 1000) (h : (decide (1 ≤ x.length) && decide (x.length ≤ 8) && x.cps.toList.all fun c => strIn ⟨#[c]⟩ ("abcdefghijklmnopqrstuvwxyz" : Str)) = b) : t_is_name (.str x) = .ok b := by rw [name_val hl, h]
theorem name_no {d : D} (h : rawB (DL.isStr d) = .ok false) : t_is_name d = .ok false := by
  unfold t_is_name
  rw [h]
  rfl
theorem nohd_of {o : Str} (h : (decide (o ≠ "num") && decide (o ≠ "field") && decide (o ≠ "name")) = true) : NoHd o := by
  simp only [Bool.and_eq_true, decide_eq_true_eq] at h
  exact ⟨h.1.1, h.1.2, h.2⟩
/-! the greatest of a few, tuples put together, loops -/
theorem maxLR_1 (a : Int) : maxLR [a] = .ok a := by show Res.ok (maxI [a]) = _; simp [maxI]
theorem maxLR_2 (a b : Int) : maxLR [a, b] = .ok (max a b) := by show Res.ok (maxI [a, b]) = _; simp [maxI]
theorem maxLR_3 (a b c : Int) : maxLR [a, b, c] = .ok (max a (max b c)) := by show Res.ok (maxI [a, b, c]) = _; simp [maxI]; try omega
theorem dAdd_tup {a b : List D} (h : a.length + b.length ≤ 1000) : dAdd (.tup a) (.tup b) = .ok (.tup (a ++ b)) := by
  show (if a.length + b.length ≤ sizeLine then Res.ok (D.tup (a ++ b)) else .bad) = _
  rw [if_pos (by rw [PySem.sizeLine_eq]; omega)]
theorem cut_at {α : Type} {l : List α} {k : Nat} (h : k ≤ l.length) : cutL l none (some (k : Int)) = l.take k ∧ cutL l (some (k : Int)) none = l.drop k := by
  constructor
  · unfold cutL
    rw [HT.sIx_nat, HT.sIx_none, Nat.min_eq_left h]
    simp
  · unfold cutL
    rw [HT.sIx_nat, HT.sIx_none, Nat.min_eq_left h]
    rw [List.take_of_length_le]
    simp
theorem forR_app' {α S : Type} {f : α → S → Res S} : ∀ {l m : List α} {s : S}, DL.forR (l ++ m) s f = (DL.forR l s f).bind fun s' => DL.forR m s' f
  | [], m, s => rfl
  | a :: l, m, s => by
    rw [List.cons_append]
    show (f a s).bind (fun s' => DL.forR (l ++ m) s' f) = ((f a s).bind fun s' => DL.forR l s' f).bind fun s' => DL.forR m s' f
    cases f a s with
    | ok s' => rw [Res.bind_ok, Res.bind_ok, forR_app']
    | exc c fs => rfl
    | bad => rfl
theorem forR_one' {α S : Type} {f : α → S → Res S} {a : α} {s : S} : DL.forR [a] s f = f a s := by
  show (f a s).bind (fun s' => DL.forR [] s' f) = _
  cases f a s <;> rfl
/-! ### terms grown from a script -/
theorem leafby_ok (c : Int) : Ok (t_l_leaf_by c) (TmD 1) := by
  unfold t_l_leaf_by
  split
  · have := Int.emod_nonneg (c / 4) (b := 4) (by decide)
    have := Int.emod_lt_of_pos (c / 4) (b := 4) (by decide)
    exact ⟨_, rfl, .field (by omega)⟩
  · split
    · obtain ⟨x, hx, e⟩ := getL_mem (l := [("a" : Str), ("of" : Str), ("add" : Str), ("zzzzzzzz" : Str), ("all" : Str), ("pick" : Str), ("q" : Str), ("end" : Str)]) (i := c / 4 % 8) (by have := Int.emod_nonneg (c / 4) (b := 8) (by decide); omega) (by have := Int.emod_lt_of_pos (c / 4) (b := 8) (by decide); simp; omega)
      rw [e, Res.bind_ok]
      have all : ∀ x ∈ ([("a" : Str), ("of" : Str), ("add" : Str), ("zzzzzzzz" : Str), ("all" : Str), ("pick" : Str), ("q" : Str), ("end" : Str)] : List Str), PyData.strOk x = true ∧ x.length ≤ 1000 ∧ (decide (1 ≤ x.length) && decide (x.length ≤ 8) && x.cps.toList.all fun c => strIn ⟨#[c]⟩ ("abcdefghijklmnopqrstuvwxyz" : Str)) = true := by decide +kernel
      exact ⟨_, rfl, .name (name_str (all x hx).2.1 (all x hx).2.2) (all x hx).1⟩
    · split
      · rw [show mulR (2 : Int) (10 ^ 18 : Int) = .ok (2 * 10 ^ 18) from mulR_s (by decide) (by decide) (by decide) (by decide)]
        simp only [Res.bind_ok]
        rw [modR_pos (by decide)]
        simp only [Res.bind_ok]
        have h0 := Int.emod_nonneg (c / 4) (b := 2 * 10 ^ 18 + 1) (by decide)
        have h1 := Int.emod_lt_of_pos (c / 4) (b := 2 * 10 ^ 18 + 1) (by decide)
        exact ⟨_, rfl, .num (by omega)⟩
      · obtain ⟨x, hx, e⟩ := getL_mem (l := [(10 ^ 18 : Int), (-(10 ^ 18 : Int)), (0 : Int), (-(1 : Int)), (7 : Int)]) (i := c / 4 % 5) (by have := Int.emod_nonneg (c / 4) (b := 5) (by decide); omega) (by have := Int.emod_lt_of_pos (c / 4) (b := 5) (by decide); simp; omega)
        rw [e]
        simp only [Res.bind_ok]
        refine ⟨_, rfl, .num ?_⟩
        simp only [List.mem_cons, List.not_mem_nil, or_false] at hx
        rcases hx with rfl | rfl | rfl | rfl | rfl <;> decide
def GE (d : D) (n : Int) : Prop := ∃ m : Nat, n = (m : Int) ∧ TmD m d ∧ m ≤ 12
theorem a2_split {α β : Type} {E : α → β → Prop} : ∀ {S P : List α} {ds : List β}, A2 E (S ++ P) ds → ∃ T Q, ds = T ++ Q ∧ A2 E S T ∧ A2 E P Q
  | [], P, ds, h => ⟨[], ds, rfl, rfl, h⟩
  | a :: S, P, _, ⟨b, ds, rfl, h, k⟩ => by
    obtain ⟨T, Q, rfl, x, y⟩ := a2_split k
    exact ⟨b :: T, Q, rfl, ⟨b, T, rfl, h, x⟩, y⟩
theorem cut_neg {α : Type} {S P : List α} {k : Nat} (hk : P.length = k) (h1 : 1 ≤ k) : cutL (S ++ P) (some (-(k : Int))) none = P ∧ cutL (S ++ P) none (some (-(k : Int))) = S := by
  have e : ∀ d, HT.sIx (S ++ P).length d (some (-(k : Int))) = S.length := fun d => by
    show (if -(k : Int) < 0 then (-(k : Int) + ((S ++ P).length : Int)).toNat else min (-(k : Int)).toNat (S ++ P).length) = _
    rw [if_pos (by omega), List.length_append]
    omega
  constructor
  · unfold cutL
    rw [e, HT.sIx_none, List.drop_left, List.take_of_length_le]
    rw [List.length_append]
    omega
  · unfold cutL
    rw [e, HT.sIx_none, List.drop_zero, Nat.sub_zero, List.take_left]
noncomputable def stepG (many3 : Int) (cell2 : Int) (s1 : List D × List Int) : Res (List D × List Int) :=
  ((if many3 = (0 : Int) then .ok true else (if ((s1.1.length : Nat) : Int) < many3 then .ok true else ((maxLR (cutL s1.2 (some (-many3)) none)).bind fun a4 => .ok (decide (a4 = (12 : Int)))))).bind fun z => if z = true then ((t_l_leaf_by (cell2 / (13 : Int))).bind fun a8 => appR s1.1 a8).bind fun stack7 =>
  (appR s1.2 (1 : Int)).bind fun deep_here9 =>
  Res.ok (stack7, deep_here9) else (getL [("not" : Str), ("add" : Str), ("sub" : Str), ("mul" : Str), ("quo" : Str), ("less" : Str), ("same" : Str), ("both" : Str), ("any" : Str), ("pick" : Str)] ((cell2 % (13 : Int)) - (3 : Int))).bind fun op10 =>
  (dAdd ((fPr (fOne D.str)) op10) ((fTup (fun d => d)) (cutL s1.1 (some (-many3)) none))).bind fun made11 =>
  ((maxLR (cutL s1.2 (some (-many3)) none)).bind fun b13 => .ok ((1 : Int) + b13)).bind fun least14 =>
  (catR (cutL s1.1 none (some (-many3))) [made11]).bind fun stack15 =>
  (catR (cutL s1.2 none (some (-many3))) [least14]).bind fun deep_here16 =>
  Res.ok (stack15, deep_here16) : Res ((List D) × (List Int))).bind fun z6 =>
  Res.ok (z6.1, z6.2)
def GS (b : Nat) (s' : List D × List Int) : Prop := A2 GE s'.1 s'.2 ∧ s'.1 ≠ [] ∧ s'.1.length ≤ b + 1
theorem a2_snocT {α β : Type} {E : α → β → Prop} {l : List α} {m : List β} {a : α} {b : β} (h : A2 E l m) (k : E a b) : A2 E (l ++ [a]) (m ++ [b]) := h.append ⟨b, [], rfl, k, rfl⟩
theorem leaf_step {s : List D × List Int} {c : Int} (h : A2 GE s.1 s.2) (hl : s.1.length ≤ 1000) : Ok ((((t_l_leaf_by c).bind fun a8 => appR s.1 a8).bind fun stack7 => (appR s.2 (1 : Int)).bind fun deep_here9 => Res.ok (stack7, deep_here9)).bind fun z6 => Res.ok (z6.1, z6.2)) (GS s.1.length) := by
  obtain ⟨d, e, t⟩ := leafby_ok c
  rw [e, Res.bind_ok, appR_ok (by omega), Res.bind_ok, appR_ok (by have := h.length; omega)]
  exact ⟨_, rfl, a2_snocT h ⟨1, rfl, t, by decide⟩, by simp, by simp⟩
theorem op_step {k : Nat} {op : Str} {cell : Int} {s : List D × List Int} (h : A2 GE s.1 s.2) (hl : s.1.length ≤ 1000) (hk : 1 ≤ k ∧ k ≤ 3) (hop : getL [("not" : Str), ("add" : Str), ("sub" : Str), ("mul" : Str), ("quo" : Str), ("less" : Str), ("same" : Str), ("both" : Str), ("any" : Str), ("pick" : Str)] ((cell % (13 : Int)) - (3 : Int)) = .ok op)
    (mk : ∀ P Q, P.length = k → A2 GE P Q → ∃ m : Nat, maxLR Q = .ok (m : Int) ∧ m ≤ 12 ∧ (m < 12 → TmD (m + 1) (.tup (.str op :: P)))) : Ok (stepG (k : Int) cell s) (GS s.1.length) := by
  unfold stepG
  rw [if_neg (show ¬ (k : Int) = 0 by omega)]
  by_cases c : ((s.1.length : Nat) : Int) < (k : Int)
  · rw [if_pos c, Res.bind_ok, if_pos rfl]
    exact leaf_step h hl
  · rw [if_neg c]
    obtain ⟨S, P, eS, hP⟩ : ∃ S P, s.1 = S ++ P ∧ P.length = k := ⟨s.1.take (s.1.length - k), s.1.drop (s.1.length - k), (List.take_append_drop _ _).symm, by rw [List.length_drop]; omega⟩
    rw [eS] at h
    obtain ⟨T, Q, eT, h1, h2⟩ := a2_split h
    obtain ⟨m, em, m12, mt⟩ := mk P Q hP h2
    have hQ : Q.length = k := by rw [h2.length]; exact hP
    have lS : S.length + k ≤ 1000 := by rw [eS, List.length_append] at hl; omega
    have lT : T.length = S.length := h1.length
    obtain ⟨c1, c2⟩ := cut_neg (S := S) hP hk.1
    obtain ⟨c3, c4⟩ := cut_neg (S := T) hQ hk.1
    rw [eS, eT, c1, c2, c3, c4, em]
    simp only [Res.bind_ok]
    by_cases q : (m : Int) = 12
    · rw [if_pos (decide_eq_true q)]
      have := leaf_step (s := (S ++ P, T ++ Q)) (c := cell / 13) (by rw [eT] at h; exact h) (by show (S ++ P).length ≤ 1000; rw [List.length_append]; omega)
      exact this
    · rw [if_neg (by simpa using q), hop, Res.bind_ok]
      have ad : dAdd ((fPr (fOne D.str)) op) ((fTup (fun d => d)) P) = .ok (.tup (.str op :: P)) := by
        rw [fTup_id]
        exact dAdd_tup (a := [.str op]) (b := P) (by simp; omega)
      rw [ad, Res.bind_ok, catR_okT (by simp; omega), Res.bind_ok, catR_okT (by simp; omega)]
      refine ⟨_, rfl, a2_snocT h1 ⟨m + 1, by omega, mt (by omega), by omega⟩, by simp, ?_⟩
      show (S ++ [_]).length ≤ (S ++ P).length + 1
      simp
theorem mk_not : ∀ P Q, P.length = 1 → A2 GE P Q → ∃ m : Nat, maxLR Q = .ok (m : Int) ∧ m ≤ 12 ∧ (m < 12 → TmD (m + 1) (.tup (.str "not" :: P)))
  | [a], _, _, ⟨_, _, rfl, ⟨n, rfl, h, l⟩, rfl⟩ => ⟨n, maxLR_1 _, l, fun _ => .un h⟩
theorem mk_bin {o : Str} (ho : o ∈ (["add", "sub", "less", "same", "mul", "quo", "both", "any"] : List Str)) : ∀ P Q, P.length = 2 → A2 GE P Q → ∃ m : Nat, maxLR Q = .ok (m : Int) ∧ m ≤ 12 ∧ (m < 12 → TmD (m + 1) (.tup (.str o :: P)))
  | [a, b], _, _, ⟨_, _, rfl, ⟨n, rfl, h, l⟩, _, _, rfl, ⟨n', rfl, h', l'⟩, rfl⟩ => ⟨max n n', by rw [maxLR_2]; congr 1; omega, by omega, fun _ => .bin ho h h'⟩
theorem mk_pick : ∀ P Q, P.length = 3 → A2 GE P Q → ∃ m : Nat, maxLR Q = .ok (m : Int) ∧ m ≤ 12 ∧ (m < 12 → TmD (m + 1) (.tup (.str "pick" :: P)))
  | [a, b, c], _, _, ⟨_, _, rfl, ⟨n, rfl, h, l⟩, _, _, rfl, ⟨n', rfl, h', l'⟩, _, _, rfl, ⟨n2, rfl, h2, l2⟩, rfl⟩ => ⟨max n (max n' n2), by rw [maxLR_3]; congr 1; omega, by omega, fun _ => .pick h h' h2⟩
noncomputable def bodyGr (cell2 : Int) (s1 : List D × List Int) : Res (List D × List Int) :=
  (getL [(0 : Int), (0 : Int), (0 : Int), (1 : Int), (2 : Int), (2 : Int), (2 : Int), (2 : Int), (2 : Int), (2 : Int), (2 : Int), (2 : Int), (3 : Int)] (cell2 % (13 : Int))).bind fun many3 => stepG many3 cell2 s1
theorem grow_step {cell : Int} {s : List D × List Int} (h : A2 GE s.1 s.2) (hl : s.1.length ≤ 1000) : Ok (bodyGr cell s) (GS s.1.length) := by
  unfold bodyGr
  have w0 := Int.emod_nonneg cell (b := 13) (by decide)
  have w1 := Int.emod_lt_of_pos cell (b := 13) (by decide)
  obtain ⟨w, hw⟩ := Int.eq_ofNat_of_zero_le w0
  have w13 : w < 13 := by omega
  have z : Ok (stepG 0 cell s) (GS s.1.length) := by
    unfold stepG
    rw [if_pos rfl, Res.bind_ok, if_pos rfl]
    exact leaf_step h hl
  rw [hw]
  match w, w13 with
  | 0, _ => exact z
  | 1, _ => exact z
  | 2, _ => exact z
  | 3, _ => exact op_step (k := 1) (op := "not") h hl (by decide) (by rw [hw]; rfl) mk_not
  | 4, _ => exact op_step (k := 2) (op := "add") h hl (by decide) (by rw [hw]; rfl) (mk_bin (by simp))
  | 5, _ => exact op_step (k := 2) (op := "sub") h hl (by decide) (by rw [hw]; rfl) (mk_bin (by simp))
  | 6, _ => exact op_step (k := 2) (op := "mul") h hl (by decide) (by rw [hw]; rfl) (mk_bin (by simp))
  | 7, _ => exact op_step (k := 2) (op := "quo") h hl (by decide) (by rw [hw]; rfl) (mk_bin (by simp))
  | 8, _ => exact op_step (k := 2) (op := "less") h hl (by decide) (by rw [hw]; rfl) (mk_bin (by simp))
  | 9, _ => exact op_step (k := 2) (op := "same") h hl (by decide) (by rw [hw]; rfl) (mk_bin (by simp))
  | 10, _ => exact op_step (k := 2) (op := "both") h hl (by decide) (by rw [hw]; rfl) (mk_bin (by simp))
  | 11, _ => exact op_step (k := 2) (op := "any") h hl (by decide) (by rw [hw]; rfl) (mk_bin (by simp))
  | 12, _ => exact op_step (k := 3) (op := "pick") h hl (by decide) (by rw [hw]; rfl) mk_pick
theorem grow_loop : ∀ (cells : List Int) (s : List D × List Int), A2 GE s.1 s.2 → s.1.length + cells.length ≤ 1000 → Ok (DL.forR cells s bodyGr) fun s' => A2 GE s'.1 s'.2 ∧ (cells ≠ [] → s'.1 ≠ []) ∧ s'.1.length ≤ s.1.length + cells.length
  | [], s, h, _ => ⟨s, rfl, h, fun z => absurd rfl z, by simp⟩
  | c :: cells, s, h, hl => by
    rw [List.length_cons] at hl
    obtain ⟨s1, e1, g1, g2, g3⟩ := grow_step (cell := c) h (by omega)
    obtain ⟨s2, e2, k1, k2, k3⟩ := grow_loop cells s1 g1 (by omega)
    refine ⟨s2, ?_, k1, fun _ => ?_, by rw [List.length_cons]; omega⟩
    · show (bodyGr c s).bind _ = _
      rw [e1]
      exact e2
    · by_cases q : cells = []
      · subst q
        cases (show Res.ok s1 = Res.ok s2 from e2)
        exact g2
      · exact k2 q
theorem grown_ok {cells : List Int} (hn : cells ≠ []) (hl : cells.length ≤ 900) : Ok (t_l_grown cells) fun l => (∀ t ∈ l, ∃ n, TmD n t ∧ n ≤ 12) ∧ l ≠ [] ∧ l.length ≤ 900 := by
  obtain ⟨s, e, h1, h2, h3⟩ := grow_loop cells ([], []) rfl (by simp; omega)
  have e' : t_l_grown cells = (DL.forR cells (([] : List D), ([] : List Int)) bodyGr).bind fun s1 => Res.ok s1.1 := rfl
  rw [e', e]
  refine ⟨s.1, rfl, fun t ht => ?_, h2 hn, by simp at h3; omega⟩
  have : ∀ {l : List D} {m : List Int}, A2 GE l m → ∀ t ∈ l, ∃ n, TmD n t ∧ n ≤ 12 := by
    intro l
    induction l with
    | nil => intro m _ t ht; cases ht
    | cons a l ih =>
      rintro _ ⟨b, m, rfl, ⟨n, _, h, q⟩, k⟩ t ht
      rcases List.mem_cons.mp ht with rfl | ht
      · exact ⟨n, h, q⟩
      · exact ih k t ht
  exact this h1 t ht
/-! ### views of any depth; what is no view -/
theorem isTup_tup (xs : List D) : rawB (DL.isTup (.tup xs)) = .ok true := rfl
theorem asI_len (xs : List D) : (dLen (.tup xs)).bind D.asI = .ok (xs.length : Int) := rfl
theorem asItems_tup (xs : List D) : D.asItems (.tup xs) = .ok xs := rfl
theorem forX_all' {α S R : Type} {f : α → S → Res (Oc S R)} {s : S} : ∀ {l : List α}, (∀ a ∈ l, f a s = .ok (.nx s)) → DL.forX l s f = .ok (.nx s)
  | [], _ => rfl
  | a :: l, h => by
    show (f a s).bind _ = _
    rw [h a List.mem_cons_self, Res.bind_ok]
    exact forX_all' fun x hx => h x (List.mem_cons_of_mem _ hx)
theorem forX_rt {α S R : Type} {f : α → S → Res (Oc S R)} {a : α} {l : List α} {s : S} {v : R} (h : f a s = .ok (.rt v)) : DL.forX (a :: l) s f = .ok (.rt v) := by
  show (f a s).bind _ = _
  rw [h]; rfl
theorem forX_nx {α S R : Type} {f : α → S → Res (Oc S R)} {a : α} {l : List α} {s s' : S} (h : f a s = .ok (.nx s')) : DL.forX (a :: l) s f = DL.forX l s' f := by
  show (f a s).bind _ = _
  rw [h]; rfl
theorem a2_true {f : D → Res Bool} : ∀ {l : List D}, (∀ t ∈ l, f t = .ok true) → A2 (fun d b => f d = .ok b) l (l.map fun _ => true)
  | [], _ => rfl
  | a :: l, h => ⟨_, _, rfl, h a List.mem_cons_self, a2_true fun x hx => h x (List.mem_cons_of_mem _ hx)⟩
theorem a2_map2 {α : Type} {f : D → Res Bool} {g : α → D} {h : α → Bool} (k : ∀ z, f (g z) = .ok (h z)) : ∀ l : List α, A2 (fun d b => f d = .ok b) (l.map g) (l.map h)
  | [] => rfl
  | a :: l => ⟨_, _, rfl, k a, a2_map2 k l⟩
/-! lists of terms -/
theorem lists_ok {Ls : List (List D)} {d : Nat} (hl : 1 ≤ Ls.length ∧ Ls.length ≤ 4) (hd : 1 ≤ d ∧ d ≤ 4) (h : ∀ L ∈ Ls, L.length = d ∧ ∀ t ∈ L, t_is_term t = .ok true) : t_are_lists (.tup (Ls.map D.tup)) = .ok true := by
  obtain ⟨L0, r, rfl⟩ : ∃ L0 r, Ls = L0 :: r := by
    cases Ls with
    | nil => simp at hl
    | cons a b => exact ⟨a, b, rfl⟩
  have c1 : decide ((((L0 :: r).map D.tup).length : Int) < 1) = false := by rw [List.length_map]; simp; omega
  have c2 : decide ((4 : Int) < (((L0 :: r).map D.tup).length : Int)) = false := by rw [List.length_map]; simp only [decide_eq_false_iff_not]; omega
  have i0 : dIx (.tup ((L0 :: r).map D.tup)) (.int 0) = .ok (.tup L0) := by rw [List.map_cons]; exact dIx_p0 _ _
  unfold t_are_lists
  simp only [isTup_tup, Res.bind_ok, Bool.not_true, Bool.false_eq_true, if_false, asI_len, c1, c2, asItems_tup]
  rw [forX_all' fun a ha => ?_]
  · rfl
  · obtain ⟨L, hL, rfl⟩ := List.mem_map.mp ha
    obtain ⟨l1, l2⟩ := h L hL
    have l0 := (h L0 List.mem_cons_self).1
    have e1 : decide ((L.length : Int) < 1) = false := by simp; omega
    have e2 : decide ((4 : Int) < (L.length : Int)) = false := by simp; omega
    have e3 : decide ((L.length : Int) ≠ (L0.length : Int)) = false := by rw [l1, l0]; simp
    have ct := comp_all (l := L) (bs := L.map fun _ => true) (f := fun term14 => t_is_term term14) (by omega) (a2_true l2)
    have cb : ((L.map fun _ => true).all fun b => b) = true := by simp
    rw [cb] at ct
    simp only [isTup_tup, Res.bind_ok, Bool.not_true, Bool.false_eq_true, if_false, asI_len, e1, e2, i0, asItems_tup, e3, ct]
/-- the first list has what is no term -/
theorem lists_no {L r : List D} {bs : List Bool} (hr : r.length ≤ 3) (hl : 1 ≤ L.length ∧ L.length ≤ 4) (h : A2 (fun d b => t_is_term d = .ok b) L bs) (hb : (bs.all fun b => b) = false) : t_are_lists (.tup (.tup L :: r)) = .ok false := by
  have c1 : decide (((D.tup L :: r).length : Int) < 1) = false := by simp; omega
  have c2 : decide ((4 : Int) < ((D.tup L :: r).length : Int)) = false := by simp; omega
  have e1 : decide ((L.length : Int) < 1) = false := by simp; omega
  have e2 : decide ((4 : Int) < (L.length : Int)) = false := by simp; omega
  have e3 : decide ((L.length : Int) ≠ (L.length : Int)) = false := by simp
  have ct := comp_all (l := L) (f := fun term14 => t_is_term term14) (by omega) h
  unfold t_are_lists
  simp only [isTup_tup, Res.bind_ok, Bool.not_true, Bool.false_eq_true, if_false, asI_len, c1, c2, asItems_tup]
  rw [forX_rt (v := false)]
  · rfl
  · simp only [isTup_tup, Res.bind_ok, Bool.not_true, Bool.false_eq_true, if_false, asI_len, e1, e2, dIx_p0, asItems_tup, e3, ct, hb, Bool.not_false, if_true]
theorem lists_none : t_are_lists (.tup []) = .ok false := by
  unfold t_are_lists
  simp [isTup_tup, dLen, D.asI]
theorem lists_many {xs : List D} (h : 5 ≤ xs.length) : t_are_lists (.tup xs) = .ok false := by
  have c1 : decide ((xs.length : Int) < 1) = false := by simp; omega
  have c2 : decide ((4 : Int) < (xs.length : Int)) = true := by simp; omega
  unfold t_are_lists
  simp only [isTup_tup, Res.bind_ok, Bool.not_true, Bool.false_eq_true, if_false, asI_len, c1, c2, if_true]
theorem lists_wide {L r : List D} (hr : r.length ≤ 3) (hl : L.length = 0 ∨ 5 ≤ L.length) : t_are_lists (.tup (.tup L :: r)) = .ok false := by
  have c1 : decide (((D.tup L :: r).length : Int) < 1) = false := by simp; omega
  have c2 : decide ((4 : Int) < ((D.tup L :: r).length : Int)) = false := by simp; omega
  unfold t_are_lists
  simp only [isTup_tup, Res.bind_ok, Bool.not_true, Bool.false_eq_true, if_false, asI_len, c1, c2, asItems_tup]
  rw [forX_rt (v := false)]
  · rfl
  · rcases hl with hl | hl
    · have e1 : decide ((L.length : Int) < 1) = true := by simp; omega
      simp only [isTup_tup, Res.bind_ok, Bool.not_true, Bool.false_eq_true, if_false, asI_len, e1, if_true]
    · have e1 : decide ((L.length : Int) < 1) = false := by simp; omega
      have e2 : decide ((4 : Int) < (L.length : Int)) = true := by simp; omega
      simp only [isTup_tup, Res.bind_ok, Bool.not_true, Bool.false_eq_true, if_false, asI_len, e1, e2, if_true]
theorem lists_unlike {t : D} (h : t_is_term t = .ok true) : t_are_lists (.tup [.tup [t], .tup [t, t]]) = .ok false := by
  have ct := comp_all (l := [t]) (bs := [true]) (f := fun term14 => t_is_term term14) (by simp) ⟨_, _, rfl, h, rfl⟩
  unfold t_are_lists
  simp only [isTup_tup, Res.bind_ok, Bool.not_true, Bool.false_eq_true, if_false, asI_len, asItems_tup]
  rw [show decide ((([D.tup [t], D.tup [t, t]] : List D).length : Int) < 1) = false from rfl, show decide ((4 : Int) < (([D.tup [t], D.tup [t, t]] : List D).length : Int)) = false from rfl]
  simp only [Bool.false_eq_true, if_false, Res.bind_ok]
  rw [forX_nx (s' := ()), forX_rt (v := false)]
  · rfl
  · simp only [isTup_tup, Res.bind_ok, Bool.not_true, Bool.false_eq_true, if_false, asI_len, dIx_p0, asItems_tup]
    rfl
  · simp only [isTup_tup, Res.bind_ok, Bool.not_true, Bool.false_eq_true, if_false, asI_len, dIx_p0, asItems_tup, ct]
    rfl
/-! pairs -/
def pr40 (p : Int × List Int) : D := .tup [.int p.1, ans p.2]
theorem len2' {a b : D} : (dLen (.tup [a, b])).bind D.asI = .ok 2 := rfl
theorem number_val (i : Int) : t_is_number (.int i) = .ok (decide (-1000000000000000000 ≤ i ∧ i ≤ 1000000000000000000)) := by
  unfold t_is_number
  exact between_val _ _ _
theorem pair_val (p : Int × List Int) (hl : p.2.length ≤ 1000) : t_is_pair (pr40 p) = .ok (decide (-1000000000000000000 ≤ p.1 ∧ p.1 ≤ 1000000000000000000) && (decide (1 ≤ p.2.length) && decide (p.2.length ≤ 4)) && (p.2.all fun z => decide (-1000000000000000000 ≤ z ∧ z ≤ 1000000000000000000))) := by
  unfold t_is_pair pr40 ans
  have ct := comp_all (l := p.2.map D.int) (bs := p.2.map fun z => decide (-1000000000000000000 ≤ z ∧ z ≤ 1000000000000000000)) (f := fun n9 => t_is_number n9) (by rw [List.length_map]; omega) (a2_map2 (fun z => number_val z) _)
  have l2 : decide ((2 : Int) ≠ 2) = false := by simp
  have ca : ((p.2.map fun z => decide (-1000000000000000000 ≤ z ∧ z ≤ 1000000000000000000)).all fun b => b) = p.2.all fun z => decide (-1000000000000000000 ≤ z ∧ z ≤ 1000000000000000000) := by
    rw [List.all_map]; rfl
  rw [ca] at ct
  generalize (p.2.all fun z => decide (-1000000000000000000 ≤ z ∧ z ≤ 1000000000000000000)) = bz at ct ⊢
  have e1 : decide ((1 : Int) ≤ ((p.2.map D.int).length : Int)) = decide (1 ≤ p.2.length) := by rw [List.length_map]; apply decide_eq_decide.mpr; omega
  have e2 : decide (((p.2.map D.int).length : Int) ≤ 4) = decide (p.2.length ≤ 4) := by rw [List.length_map]; apply decide_eq_decide.mpr; omega
  simp only [isTup_tup, Res.bind_ok, Bool.not_true, Bool.false_eq_true, if_false, len2', l2, dIx_p0, dIx_p1, number_val, if_true, asI_len, e1, e2, asItems_tup]
  generalize decide (-1000000000000000000 ≤ p.1 ∧ p.1 ≤ 1000000000000000000) = b1
  generalize decide (1 ≤ p.2.length) = b2
  generalize decide (p.2.length ≤ 4) = b3
  cases b1
  · rfl
  · cases b2
    · simp
    · cases b3
      · simp
      · simp [ct]
theorem pairs_ok {ps : List (Int × List Int)} {d : Nat} (hl : ps.length ≤ 8) (hd : 1 ≤ d ∧ d ≤ 4) (h : ∀ p ∈ ps, (-1000000000000000000 ≤ p.1 ∧ p.1 ≤ 1000000000000000000) ∧ p.2.length = d ∧ ∀ z ∈ p.2, -1000000000000000000 ≤ z ∧ z ≤ 1000000000000000000) :
    t_are_pairs (.tup (ps.map pr40)) = .ok true := by
  have c2 : decide ((8 : Int) < ((ps.map pr40).length : Int)) = false := by rw [List.length_map]; simp; omega
  unfold t_are_pairs
  simp only [isTup_tup, Res.bind_ok, Bool.not_true, Bool.false_eq_true, if_false, asI_len, c2, asItems_tup]
  rw [forX_all' fun a ha => ?_]
  · rfl
  · obtain ⟨p, hp, rfl⟩ := List.mem_map.mp ha
    obtain ⟨q, r, rfl⟩ : ∃ q r, ps = q :: r := by
      cases ps with
      | nil => cases hp
      | cons a b => exact ⟨a, b, rfl⟩
    obtain ⟨a1, a2, a3⟩ := h p hp
    have b2 := (h q List.mem_cons_self).2.1
    have pv : t_is_pair (pr40 p) = .ok true := by
      rw [pair_val p (by omega), decide_eq_true a1, decide_eq_true (show 1 ≤ p.2.length by omega), decide_eq_true (show p.2.length ≤ 4 by omega), List.all_eq_true.mpr fun z hz => decide_eq_true (a3 z hz)]
      rfl
    have i0 : dIx (.tup ((q :: r).map pr40)) (.int 0) = .ok (pr40 q) := by rw [List.map_cons]; exact dIx_p0 _ _
    have i1 : ∀ q : Int × List Int, dIx (pr40 q) (.int 1) = .ok (ans q.2) := fun q => dIx_p1 [] _ _
    have il : ∀ q : Int × List Int, (dLen (ans q.2)).bind D.asI = .ok (q.2.length : Int) := fun q => by
      show Res.ok ((q.2.map D.int).length : Int) = _
      rw [List.length_map]
    have e3 : decide ((p.2.length : Int) ≠ (q.2.length : Int)) = false := by rw [a2, b2]; simp
    simp only [pv, Res.bind_ok, Bool.not_true, Bool.false_eq_true, if_false, i0, i1, il, e3]
theorem pairs_no {x : D} {r : List D} (hr : r.length ≤ 7) (h : t_is_pair x = .ok false) : t_are_pairs (.tup (x :: r)) = .ok false := by
  have c2 : decide ((8 : Int) < ((x :: r).length : Int)) = false := by simp; omega
  unfold t_are_pairs
  simp only [isTup_tup, Res.bind_ok, Bool.not_true, Bool.false_eq_true, if_false, asI_len, c2, asItems_tup]
  rw [forX_rt (v := false)]
  · rfl
  · simp only [h, Res.bind_ok, Bool.not_false, if_true]
theorem pairs_many {xs : List D} (h : 9 ≤ xs.length) : t_are_pairs (.tup xs) = .ok false := by
  have c2 : decide ((8 : Int) < (xs.length : Int)) = true := by simp; omega
  unfold t_are_pairs
  simp only [isTup_tup, Res.bind_ok, Bool.not_true, Bool.false_eq_true, if_false, asI_len, c2, if_true]
theorem pair_int (i : Int) : t_is_pair (.int i) = .ok false := rfl
/-! what is told of views at each depth -/
def FitsV (d : D) (g : Nat → Bool) : Prop := ∀ (deep i : Nat), u_view_fits (deep + 1 + i) d (deep : Int) = .ok (g deep)
theorem FitsV.step {d : D} {g : Nat → Bool} (h : FitsV d g) (deep i : Nat) : u_view_fits (deep + 1 + i) d (((deep + 1 : Nat) : Int) - 1) = .ok (g deep) := by
  rw [show ((deep + 1 : Nat) : Int) - 1 = (deep : Int) by omega]
  exact h deep i
theorem vfits_zero {G : D → Int → Res Bool} (d : D) : tb_view_fits G d 0 = .ok false := by
  unfold tb_view_fits
  simp
theorem FitsV.of {d : D} {g : Nat → Bool} (h0 : g 0 = false) (h : ∀ deep i : Nat, tb_view_fits (u_view_fits (deep + 1 + i)) d ((deep + 1 : Nat) : Int) = .ok (g (deep + 1))) : FitsV d g := by
  intro deep i
  cases deep with
  | zero =>
    rw [show 0 + 1 + i = i + 1 by omega, h0]
    exact vfits_zero d
  | succ deep =>
    rw [show deep + 1 + 1 + i = deep + 1 + i + 1 by omega]
    exact h deep i
theorem FitsV.eq {d : D} {g f : Nat → Bool} (h : FitsV d g) (e : ∀ n, g n = f n) : FitsV d f := fun deep i => by rw [← e]; exact h deep i
def NoV (d : D) : Prop := FitsV d fun _ => false
theorem nv_of {d : D} (h : ∀ (G : D → Int → Res Bool) (deep : Int), deep ≠ 0 → tb_view_fits G d deep = .ok false) : NoV d := FitsV.of rfl fun deep i => h _ _ (by omega)
theorem nv_head {d : D} (h : t_headed d = .ok false) : NoV d := nv_of fun G deep hd => by
  unfold tb_view_fits
  simp [hd, h]
def NoVw (o : Str) : Prop := o ≠ "all" ∧ o ≠ "keep" ∧ o ≠ "rows" ∧ o ≠ "unlike" ∧ o ≠ "cap" ∧ o ≠ "both" ∧ o ≠ "match"
theorem nv_word {o : Str} {xs : List D} (h : NoVw o) : NoV (.tup (.str o :: xs)) := nv_of fun G deep hd => by
  obtain ⟨h1, h2, h3, h4, h5, h6, h7⟩ := h
  unfold tb_view_fits
  simp only [hd, if_false, headed_ok, Res.bind_ok, Bool.not_true, Bool.false_eq_true, dIx_p0, dEq_ss, dNe_ss, decide_eq_true_eq, h1, h2, h3, h4, h5, h6, h7, decide_false, Bool.not_false, if_true]
theorem novw_of {o : Str} (h : (decide (o ≠ "all") && decide (o ≠ "keep") && decide (o ≠ "rows") && decide (o ≠ "unlike") && decide (o ≠ "cap") && decide (o ≠ "both") && decide (o ≠ "match")) = true) : NoVw o := by
  simp only [Bool.and_eq_true, decide_eq_true_eq] at h
  exact ⟨h.1.1.1.1.1.1, h.1.1.1.1.1.2, h.1.1.1.1.2, h.1.1.1.2, h.1.1.2, h.1.2, h.2⟩
section
variable {G : D → Int → Res Bool} {deep : Int} (hd : deep ≠ 0) {t v u l : D} {b c e : Bool}
include hd
theorem vf_all : tb_view_fits G (.tup [.str "all"]) deep = .ok true := by
  unfold tb_view_fits
  simp [hd, headed_ok, dIx_p0, dLen, D.asI]
theorem vf_all2 : tb_view_fits G (.tup [.str "all", t]) deep = .ok false := by
  unfold tb_view_fits
  simp [hd, headed_ok, dIx_p0, dLen, D.asI]
theorem vf_keep (ht : t_is_term t = .ok b) : tb_view_fits G (.tup [.str "keep", t, v]) deep = if b = true then G v (deep - 1) else .ok false := by
  unfold tb_view_fits
  simp [hd, headed_ok, dIx_p0, dIx_p1, dIx_p2, dLen, D.asI, ht]
theorem vf_keep2 : tb_view_fits G (.tup [.str "keep", t]) deep = .ok false := by
  unfold tb_view_fits
  simp [hd, headed_ok, dIx_p0, dLen, D.asI]
theorem vf_rows (ht : t_are_lists t = .ok b) : tb_view_fits G (.tup [.str "rows", t, v]) deep = if b = true then G v (deep - 1) else .ok false := by
  unfold tb_view_fits
  simp [hd, headed_ok, dIx_p0, dIx_p1, dIx_p2, dLen, D.asI, ht]
theorem vf_unlike : tb_view_fits G (.tup [.str "unlike", v]) deep = G v (deep - 1) := by
  unfold tb_view_fits
  simp [hd, headed_ok, dIx_p0, dIx_p1, dIx_p2, dLen, D.asI]
theorem vf_unlike1 : tb_view_fits G (.tup [.str "unlike"]) deep = .ok false := by
  unfold tb_view_fits
  simp [hd, headed_ok, dIx_p0, dIx_p1, dIx_p2, dLen, D.asI]
theorem vf_unlike3 : tb_view_fits G (.tup [.str "unlike", v, u]) deep = .ok false := by
  unfold tb_view_fits
  simp [hd, headed_ok, dIx_p0, dIx_p1, dIx_p2, dLen, D.asI]
theorem vf_cap (ht : t_is_term t = .ok b) (hk : t_lies_between u 1 40 = .ok c) : tb_view_fits G (.tup [.str "cap", t, u, v]) deep = if (b && c) = true then G v (deep - 1) else .ok false := by
  unfold tb_view_fits
  cases b <;> simp [hd, headed_ok, dIx_p0, dIx_p1, dIx_p2, dIx_p3, dLen, D.asI, ht, hk]
theorem vf_both (k : G v (deep - 1) = .ok b) : tb_view_fits G (.tup [.str "both", v, u]) deep = if b = true then G u (deep - 1) else .ok false := by
  unfold tb_view_fits
  simp [hd, headed_ok, dIx_p0, dIx_p1, dIx_p2, dLen, D.asI, k]
theorem vf_both2 : tb_view_fits G (.tup [.str "both", v]) deep = .ok false := by
  unfold tb_view_fits
  simp [hd, headed_ok, dIx_p0, dIx_p1, dIx_p2, dLen, D.asI]
theorem vf_match (hp : t_are_pairs l = .ok b) (ht : t_is_term t = .ok c) : tb_view_fits G (.tup [.str "match", l, t, v]) deep = if (b && c) = true then G v (deep - 1) else .ok false := by
  unfold tb_view_fits
  cases b <;> simp [hd, headed_ok, dIx_p0, dIx_p1, dIx_p2, dIx_p3, dLen, D.asI, hp, ht]
theorem vf_match3 : tb_view_fits G (.tup [.str "match", l, t]) deep = .ok false := by
  unfold tb_view_fits
  simp [hd, headed_ok, dIx_p0, dIx_p1, dIx_p2, dIx_p3, dLen, D.asI]
end
theorem FitsV.one {d v : D} {g : Nat → Bool} {b : Bool} (h : ∀ (G : D → Int → Res Bool) (deep : Int), deep ≠ 0 → tb_view_fits G d deep = if b = true then G v (deep - 1) else .ok false) (hv : FitsV v g) : FitsV d fun n => decide (1 ≤ n) && (b && g (n - 1)) :=
  .of (by simp) fun deep i => by
    rw [h _ _ (by omega)]
    cases b with
    | false => simp
    | true => rw [if_pos rfl, hv.step deep i]; simp
theorem FitsV.two {v u : D} {g f : Nat → Bool} (hv : FitsV v g) (hu : FitsV u f) : FitsV (.tup [.str "both", v, u]) fun n => decide (1 ≤ n) && (g (n - 1) && f (n - 1)) :=
  .of (by simp) fun deep i => by
    rw [vf_both (by omega) (hv.step deep i)]
    cases hg : g deep with
    | false => simp [hg]
    | true => rw [if_pos rfl, hu.step deep i]; simp [hg]
theorem NoV.one {d v : D} {b : Bool} (h : ∀ (G : D → Int → Res Bool) (deep : Int), deep ≠ 0 → tb_view_fits G d deep = if b = true then G v (deep - 1) else .ok false) (hv : NoV v) : NoV d := (FitsV.one h hv).eq fun n => by simp
theorem NoV.no {d v : D} (h : ∀ (G : D → Int → Res Bool) (deep : Int), deep ≠ 0 → tb_view_fits G d deep = if false = true then G v (deep - 1) else .ok false) : NoV d := nv_of fun G deep hd => by rw [h G deep hd]; rfl
/-- a good term -/
def TG (t : D) : Prop := ∃ n, TmD n t ∧ n ≤ 12
theorem TG.is {t : D} (h : TG t) : t_is_term t = .ok true := by
  obtain ⟨n, h, q⟩ := h
  have : u_term_fits (12 + 1 + 1) t ((12 : Nat) : Int) = .ok (decide (n ≤ 12)) := h.at 12 1
  rw [decide_eq_true q] at this
  exact this
theorem NoT.isn {t : D} (h : NoT t) : t_is_term t = .ok false := h 12 1
/-- a view n deep -/
inductive VwD : Nat → D → Prop
  | all : VwD 1 (.tup [.str "all"])
  | keep {n : Nat} {t v : D} (ht : TG t) (h : VwD n v) : VwD (n + 1) (.tup [.str "keep", t, v])
  | rows {n : Nat} {l v : D} (hl : t_are_lists l = .ok true) (hp : ∀ m, 20 ≤ m → l.pl m = true) (h : VwD n v) : VwD (n + 1) (.tup [.str "rows", l, v])
  | unlike {n : Nat} {v : D} (h : VwD n v) : VwD (n + 1) (.tup [.str "unlike", v])
  | cap {n : Nat} {t v : D} {k : Int} (hk : 1 ≤ k ∧ k ≤ 40) (ht : TG t) (h : VwD n v) : VwD (n + 1) (.tup [.str "cap", t, .int k, v])
  | both {n m : Nat} {v u : D} (h : VwD n v) (k : VwD m u) : VwD (max n m + 1) (.tup [.str "both", v, u])
  | mtch {n : Nat} {l t v : D} (hl : t_are_pairs l = .ok true) (hp : ∀ m, 20 ≤ m → l.pl m = true) (ht : TG t) (h : VwD n v) : VwD (n + 1) (.tup [.str "match", l, t, v])
theorem VwD.pos {n : Nat} {v : D} (h : VwD n v) : 1 ≤ n := by cases h <;> omega
theorem VwD.at {n : Nat} {v : D} (h : VwD n v) : FitsV v fun deep => decide (n ≤ deep) := by
  induction h with
  | all => exact .of (by simp) fun deep i => by rw [vf_all (by omega)]; simp
  | keep ht h ih => exact (FitsV.one (fun G deep hd => vf_keep hd ht.is) ih).eq fun n => by rw [Bool.eq_iff_iff]; simp; omega
  | rows hl hp h ih => exact (FitsV.one (fun G deep hd => vf_rows hd hl) ih).eq fun n => by rw [Bool.eq_iff_iff]; simp; omega
  | unlike h ih => exact (FitsV.one (b := true) (fun G deep hd => vf_unlike hd) ih).eq fun n => by rw [Bool.eq_iff_iff]; simp; omega
  | cap hk ht h ih => exact (FitsV.one (b := true) (fun G deep hd => vf_cap hd ht.is (by rw [between_val, decide_eq_true hk])) ih).eq fun n => by rw [Bool.eq_iff_iff]; simp; omega
  | both h k ih ik => exact (FitsV.two ih ik).eq fun n => by rw [Bool.eq_iff_iff]; simp; omega
  | mtch hl hp ht h ih => exact (FitsV.one (b := true) (fun G deep hd => vf_match hd hl ht.is) ih).eq fun n => by rw [Bool.eq_iff_iff]; simp; omega
/-- a view is no term -/
theorem VwD.noT {n : Nat} {v : D} (h : VwD n v) : NoT v := by
  induction h with
  | all => exact nt_short _
  | keep ht h ih => exact nt_word (by decide +kernel) (nohd_of (by decide +kernel))
  | rows hl hp h ih => exact nt_word (by decide +kernel) (nohd_of (by decide +kernel))
  | unlike h ih => exact nt_word (by decide +kernel) (nohd_of (by decide +kernel))
  | cap hk ht h ih => exact nt_word (by decide +kernel) (nohd_of (by decide +kernel))
  | both h k ih ik => exact NoT.part (xs := [_, _]) (gs := [fun _ => false, fun _ => false]) (by simp) (parts_of "both" (by simp)) (nohd "both" (by simp)) ⟨_, _, rfl, ih, _, _, rfl, ik, rfl⟩ (by simp)
  | mtch hl hp ht h ih => exact nt_word (by decide +kernel) (nohd_of (by decide +kernel))
/-- a term is no view -/
theorem TmD.noV {n : Nat} {t : D} (h : TmD n t) : NoV t := by
  induction h with
  | num h => exact nv_word (novw_of (by decide +kernel))
  | field h => exact nv_word (novw_of (by decide +kernel))
  | name h => exact nv_word (novw_of (by decide +kernel))
  | un h ih => exact nv_word (novw_of (by decide +kernel))
  | @bin n m o a b ho h k ih ik =>
    by_cases q : o = "both"
    · subst q
      exact (FitsV.two ih ik).eq fun n => by simp
    · have : ∀ o ∈ (["add", "sub", "less", "same", "mul", "quo", "both", "any"] : List Str), o ≠ "both" → (decide (o ≠ "all") && decide (o ≠ "keep") && decide (o ≠ "rows") && decide (o ≠ "unlike") && decide (o ≠ "cap") && decide (o ≠ "both") && decide (o ≠ "match")) = true := by decide +kernel
      exact nv_word (novw_of (this o ho q))
  | pick h k q ih ik il => exact nv_word (novw_of (by decide +kernel))
/-! plain data -/
theorem pls_all {l : List D} {n : Nat} (h : ∀ d ∈ l, d.pl n = true) : D.pls l n = true := by
  induction l with
  | nil => simp [D.pls]
  | cons d l ih => simp [D.pls, h d List.mem_cons_self, ih fun x hx => h x (List.mem_cons_of_mem _ hx)]
theorem sop : ∀ o ∈ (["num", "field", "name", "not", "pick", "add", "sub", "less", "same", "mul", "quo", "both", "any", "all", "keep", "rows", "unlike", "cap", "match"] : List Str), PyData.strOk o = true := by decide +kernel
theorem TmD.pl {n : Nat} {t : D} (h : TmD n t) : ∀ m, n + 1 ≤ m → t.pl m = true := by
  induction h with
  | num h => intro m hm; obtain ⟨m, rfl⟩ : ∃ k, m = k + 1 := ⟨m - 1, by omega⟩; simp [D.pl, D.pls, sop "num" (by simp)]
  | field h => intro m hm; obtain ⟨m, rfl⟩ : ∃ k, m = k + 1 := ⟨m - 1, by omega⟩; simp [D.pl, D.pls, sop "field" (by simp)]
  | name h k => intro m hm; obtain ⟨m, rfl⟩ : ∃ k, m = k + 1 := ⟨m - 1, by omega⟩; simp [D.pl, D.pls, sop "name" (by simp), k]
  | un h ih => intro m hm; obtain ⟨m, rfl⟩ : ∃ k, m = k + 1 := ⟨m - 1, by omega⟩; simp [D.pl, D.pls, sop "not" (by simp), ih m (by omega)]
  | @bin n m o a b ho h k ih ik =>
    have : PyData.strOk o = true := sop o (by simp only [List.mem_cons, List.not_mem_nil, or_false] at ho ⊢; rcases ho with h | h | h | h | h | h | h | h <;> simp [h])
    intro m hm; obtain ⟨m, rfl⟩ : ∃ k, m = k + 1 := ⟨m - 1, by omega⟩; simp [D.pl, D.pls, this, ih m (by omega), ik m (by omega)]
  | pick h k l ih ik il => intro m hm; obtain ⟨m, rfl⟩ : ∃ k, m = k + 1 := ⟨m - 1, by omega⟩; simp [D.pl, D.pls, sop "pick" (by simp), ih m (by omega), ik m (by omega), il m (by omega)]
theorem TG.pl {t : D} (h : TG t) {m : Nat} (hm : 13 ≤ m) : t.pl m = true := by
  obtain ⟨n, h, q⟩ := h
  exact h.pl m (by omega)
theorem VwD.pl {n : Nat} {v : D} (h : VwD n v) : ∀ m, n + 20 ≤ m → v.pl m = true := by
  induction h with
  | all => intro m hm; obtain ⟨m, rfl⟩ : ∃ k, m = k + 1 := ⟨m - 1, by omega⟩; simp [D.pl, D.pls, sop "all" (by simp)]
  | keep ht h ih => intro m hm; obtain ⟨m, rfl⟩ : ∃ k, m = k + 1 := ⟨m - 1, by omega⟩; simp [D.pl, D.pls, sop "keep" (by simp), ih m (by omega), ht.pl (show 13 ≤ m by omega)]
  | rows hl hp h ih => intro m hm; obtain ⟨m, rfl⟩ : ∃ k, m = k + 1 := ⟨m - 1, by omega⟩; simp [D.pl, D.pls, sop "rows" (by simp), ih m (by omega), hp m (by omega)]
  | unlike h ih => intro m hm; obtain ⟨m, rfl⟩ : ∃ k, m = k + 1 := ⟨m - 1, by omega⟩; simp [D.pl, D.pls, sop "unlike" (by simp), ih m (by omega)]
  | cap hk ht h ih => intro m hm; obtain ⟨m, rfl⟩ : ∃ k, m = k + 1 := ⟨m - 1, by omega⟩; simp [D.pl, D.pls, sop "cap" (by simp), ih m (by omega), ht.pl (show 13 ≤ m by omega)]
  | both h k ih ik => intro m hm; obtain ⟨m, rfl⟩ : ∃ k, m = k + 1 := ⟨m - 1, by omega⟩; simp [D.pl, D.pls, sop "both" (by simp), ih m (by omega), ik m (by omega)]
  | mtch hl hp ht h ih => intro m hm; obtain ⟨m, rfl⟩ : ∃ k, m = k + 1 := ⟨m - 1, by omega⟩; simp [D.pl, D.pls, sop "match" (by simp), ih m (by omega), hp m (by omega), ht.pl (show 13 ≤ m by omega)]
/-! ### what is no view: the law's list; views spoiled; how deep -/
def BadT (d : D) : Prop := t_is_term d = .ok false
theorem wrap_ok {n : Nat} {t : D} (h : TmD n t) : ∀ m : Nat, Ok (DL.forR ((List.range m).map fun (i : Nat) => (i : Int)) t (fun k3 s2 =>
  (Res.ok ((fPr (fCons D.str (fOne (fun d => d)))) (("not" : Str), s2))).bind fun deep4 =>
  Res.ok deep4)) (TmD (n + m))
  | 0 => ⟨t, rfl, h⟩
  | m + 1 => by
    obtain ⟨t', e, h'⟩ := wrap_ok h m
    rw [List.range_succ, List.map_append, forR_app', e, Res.bind_ok, List.map_cons, List.map_nil, forR_one']
    exact ⟨_, rfl, .un h'⟩
theorem noterm_ok {t : D} (cell : Int) : Ok (t_l_no_term cell t) BadT := by
  unfold t_l_no_term
  obtain ⟨w, e, hw⟩ := wrap_ok (TmD.num (i := 1) (by decide)) 12
  rw [Res.bind_ok, rng1_ok (by omega) (by omega), Res.bind_ok, show rangeI 0 (12 : Int) = (List.range 12).map fun (i : Nat) => (i : Int) from rangeI_nat 12]
  rw [show ((fPr (fCons D.str (fOne D.int))) (("num" : Str), (1 : Int))) = D.tup [.str "num", .int 1] from rfl, e, Res.bind_ok, Res.bind_ok, catR_okT (by simp), Res.bind_ok]
  have m0 := Int.emod_nonneg cell (b := 14) (by decide)
  have m1 := Int.emod_lt_of_pos cell (b := 14) (by decide)
  refine Exists.imp (fun d h => ⟨h.2, ?_⟩) (getL_mem (i := cell % 14) (by omega) (by simp; omega))
  have h := h.1
  simp only [fPr_ap, fCons_ap, fOne_ap, List.mem_append, List.mem_cons, List.not_mem_nil, or_false] at h
  rcases h with (rfl | rfl | rfl | rfl | rfl | rfl | rfl) | (rfl | rfl | rfl | rfl | rfl | rfl | rfl)
  · exact hw.at 12 1
  · exact (nt_short _).isn
  · exact (nt_leaf (.inl ⟨rfl, by rw [number_val]; simp⟩)).isn
  · exact (nt_leaf (.inl ⟨rfl, by unfold t_is_number; exact between_no _ _ rfl⟩)).isn
  · exact (nt_leaf (.inr (.inl ⟨rfl, by rw [between_val]; simp⟩))).isn
  · exact (nt_leaf (.inr (.inl ⟨rfl, by rw [between_val]; simp⟩))).isn
  · exact (nt_leaf (.inr (.inr ⟨rfl, name_str (by decide +kernel) (by decide +kernel)⟩))).isn
  · exact (nt_leaf (.inr (.inr ⟨rfl, name_str (by decide +kernel) (by decide +kernel)⟩))).isn
  · exact (nt_many (parts_of "add" (by simp)) (nohd_of (by decide +kernel)) (by simp)).isn
  · exact (nt_word (by decide +kernel) (nohd_of (by decide +kernel))).isn
  · exact (nt_head (by unfold t_headed; simp [DL.isTup, D.tyN])).isn
  · exact (nt_head (by unfold t_headed; simp [DL.isTup, D.tyN])).isn
  · exact (nt_head (by unfold t_headed; simp [DL.isTup, dLen, D.asI])).isn
  · exact (nt_short _).isn
theorem int_noterm (i : Int) : BadT (.int i) := (nt_head (by unfold t_headed; simp [DL.isTup, D.tyN])).isn
theorem str_noterm (s : Str) : BadT (.str s) := (nt_head (by unfold t_headed; simp [DL.isTup, D.tyN])).isn
/-- a term as a list of terms -/
theorem TmD.nolists {n : Nat} {t : D} (h : TmD n t) (hn : n ≤ 12) : t_are_lists (.tup [t]) = .ok false := by
  have parts : ∀ {a : D} {k : Nat}, TmD k a → ∃ b, t_is_term a = .ok b := fun h => ⟨_, h.at 12 1⟩
  cases h with
  | num h => exact lists_no (bs := [false, false]) (by simp) (by simp) ⟨_, _, rfl, str_noterm _, _, _, rfl, int_noterm _, rfl⟩ rfl
  | field h => exact lists_no (bs := [false, false]) (by simp) (by simp) ⟨_, _, rfl, str_noterm _, _, _, rfl, int_noterm _, rfl⟩ rfl
  | name h k => exact lists_no (bs := [false, false]) (by simp) (by simp) ⟨_, _, rfl, str_noterm _, _, _, rfl, str_noterm _, rfl⟩ rfl
  | un h =>
    obtain ⟨b, e⟩ := parts h
    exact lists_no (bs := [false, b]) (by simp) (by simp) ⟨_, _, rfl, str_noterm _, _, _, rfl, e, rfl⟩ rfl
  | bin ho h k =>
    obtain ⟨b, e⟩ := parts h
    obtain ⟨c, e'⟩ := parts k
    exact lists_no (bs := [false, b, c]) (by simp) (by simp) ⟨_, _, rfl, str_noterm _, _, _, rfl, e, _, _, rfl, e', rfl⟩ rfl
  | pick h k q =>
    obtain ⟨b, e⟩ := parts h
    obtain ⟨c, e'⟩ := parts k
    obtain ⟨d, e2⟩ := parts q
    exact lists_no (bs := [false, b, c, d]) (by simp) (by simp) ⟨_, _, rfl, str_noterm _, _, _, rfl, e, _, _, rfl, e', _, _, rfl, e2, rfl⟩ rfl
theorem repT_5 {α : Type} (a : α) : repT [a] (5 : Int) = .ok [a, a, a, a, a] := by
  unfold repT
  rw [if_neg (by decide), if_pos (by simp)]
  rfl
theorem repT_9 {α : Type} (a : α) : repT [a] (9 : Int) = .ok [a, a, a, a, a, a, a, a, a] := by
  unfold repT
  rw [if_neg (by decide), if_pos (by simp)]
  rfl
theorem pr_23 : (D.tup [.int 1, .tup [.int 2, .int 3]]) = pr40 (1, [2, 3]) := rfl
theorem pairs_unlike : t_are_pairs (.tup [pr40 (1, [2, 3]), pr40 (1, [2])]) = .ok false := by
  have i1 : ∀ q : Int × List Int, dIx (pr40 q) (.int 1) = .ok (ans q.2) := fun q => dIx_p1 [] _ _
  have il : ∀ q : Int × List Int, (dLen (ans q.2)).bind D.asI = .ok (q.2.length : Int) := fun q => by
    show Res.ok ((q.2.map D.int).length : Int) = _
    rw [List.length_map]
  unfold t_are_pairs
  simp only [isTup_tup, Res.bind_ok, Bool.not_true, Bool.false_eq_true, if_false, asI_len, asItems_tup]
  rw [show decide ((8 : Int) < (([pr40 (1, [2, 3]), pr40 (1, [2])] : List D).length : Int)) = false from rfl]
  simp only [Res.bind_ok, Bool.false_eq_true, if_false]
  have p1 : t_is_pair (pr40 (1, [2, 3])) = .ok true := by rw [pair_val _ (by decide)]; rfl
  have p2 : t_is_pair (pr40 (1, [2])) = .ok true := by rw [pair_val _ (by decide)]; rfl
  rw [forX_nx (s' := ()), forX_rt (v := false)]
  · rfl
  · simp only [p2, Res.bind_ok, Bool.not_true, Bool.false_eq_true, if_false, dIx_p0, i1, il]
    rfl
  · simp only [p1, Res.bind_ok, Bool.not_true, Bool.false_eq_true, if_false, dIx_p0, i1, il]
    rfl
theorem pairs_one : t_are_pairs (.tup [pr40 (1, [2, 3])]) = .ok true := pairs_ok (ps := [(1, [2, 3])]) (d := 2) (by simp) (by decide) fun p hp => by
  rw [List.mem_singleton] at hp
  subst hp
  decide
theorem bad_pair {p : Int × List Int} (hl : p.2.length ≤ 1000) (h : (decide (-1000000000000000000 ≤ p.1 ∧ p.1 ≤ 1000000000000000000) && (decide (1 ≤ p.2.length) && decide (p.2.length ≤ 4)) && (p.2.all fun z => decide (-1000000000000000000 ≤ z ∧ z ≤ 1000000000000000000))) = false) : t_are_pairs (.tup [pr40 p]) = .ok false :=
  pairs_no (by simp) (by rw [pair_val p hl, h])
theorem badview_ok {n k : Nat} {t v : D} (cell : Int) (ht : TmD k t) (hk : k ≤ 12) (hv : VwD n v) : Ok (t_l_bad_view cell t v) NoV := by
  have tg : TG t := ⟨k, ht, hk⟩
  have ti := tg.is
  unfold t_l_bad_view
  obtain ⟨bad, eb, hb⟩ := noterm_ok (t := t) (cell / 35)
  have hb : t_is_term bad = .ok false := hb
  rw [Res.bind_ok, eb]
  simp only [Res.bind_ok, repT_5, repT_9]
  rw [catR_okT (by simp), Res.bind_ok, catR_okT (by simp), Res.bind_ok, catR_okT (by simp), Res.bind_ok, catR_okT (by simp), Res.bind_ok, catR_okT (by simp), Res.bind_ok, catR_okT (by simp), Res.bind_ok, catR_okT (by simp), Res.bind_ok, catR_okT (by simp), Res.bind_ok, catR_okT (by simp), Res.bind_ok]
  have m0 := Int.emod_nonneg cell (b := 35) (by decide)
  have m1 := Int.emod_lt_of_pos cell (b := 35) (by decide)
  refine Exists.imp (fun d h => ⟨h.2, ?_⟩) (getL_mem (i := cell % 35) (by omega) (by simp; omega))
  have h := h.1
  simp only [fPr_ap, fCons_ap, fOne_ap, fTup_ap, List.map_cons, List.map_nil, List.mem_append, List.mem_cons, List.not_mem_nil, or_false] at h
  rcases h with (((((((((rfl | rfl | rfl | rfl | rfl | rfl | rfl | rfl) | (rfl | rfl | rfl)) | (rfl | rfl | rfl)) | (rfl | rfl | rfl | rfl)) | (rfl | rfl | rfl | rfl)) | (rfl | rfl)) | (rfl | rfl)) | (rfl | rfl | rfl)) | (rfl | rfl | rfl)) | (rfl | rfl | rfl)
  · exact nv_head (by unfold t_headed; simp [DL.isTup, dLen, D.asI])
  · exact nv_of fun G deep hd => vf_all2 hd
  · exact nv_head (by unfold t_headed; simp [DL.isTup, D.tyN])
  · exact nv_head (by unfold t_headed; simp [DL.isTup, D.tyN])
  · exact nv_of fun G deep hd => vf_keep2 hd
  · exact NoV.no fun G deep hd => vf_keep hd hv.noT.isn
  · exact NoV.no fun G deep hd => vf_keep hd (nt_short _).isn
  · exact nv_word (novw_of (by decide +kernel))
  · exact NoV.no fun G deep hd => vf_rows hd lists_none
  · exact NoV.no fun G deep hd => vf_rows hd (lists_wide (by simp) (.inl rfl))
  · exact NoV.no fun G deep hd => vf_rows hd (lists_unlike ti)
  · exact NoV.no fun G deep hd => vf_rows hd (lists_many (by simp))
  · exact NoV.no fun G deep hd => vf_rows hd (lists_wide (by simp) (.inr (by simp)))
  · exact NoV.no fun G deep hd => vf_rows hd (ht.nolists hk)
  · exact nv_of fun G deep hd => vf_unlike1 hd
  · exact nv_of fun G deep hd => vf_unlike3 hd
  · exact NoV.no fun G deep hd => vf_cap hd ti (by rw [between_val]; rfl)
  · exact NoV.no fun G deep hd => vf_cap hd ti (by rw [between_val]; rfl)
  · exact NoV.no (v := v) fun G deep hd => by
      have := vf_cap (G := G) (v := v) hd (b := false) (c := false) (int_noterm 2) (u := t) (by
        cases ht <;> exact between_no _ _ rfl)
      exact this
  · exact nv_of fun G deep hd => vf_both2 hd
  · exact (FitsV.two hv.at ht.noV).eq fun n => by simp
  · exact NoV.no fun G deep hd => vf_match hd (c := true) (b := false) (pairs_many (by simp)) ti
  · exact NoV.no fun G deep hd => vf_match hd (c := true) (b := false) pairs_unlike ti
  · exact NoV.no fun G deep hd => vf_match hd (c := true) (b := false) (bad_pair (p := (1, [])) (by simp) rfl) ti
  · exact NoV.no fun G deep hd => vf_match hd (c := true) (b := false) (bad_pair (p := (1, [1, 2, 3, 4, 5])) (by simp) rfl) ti
  · exact NoV.no fun G deep hd => vf_match hd (c := true) (b := false) (bad_pair (p := (10 ^ 18 + 1, [1])) (by simp) rfl) ti
  · exact NoV.no fun G deep hd => vf_match hd (c := true) (b := false) (bad_pair (p := (1, [-(10 ^ 18) - 1])) (by simp) rfl) ti
  · exact nv_of fun G deep hd => vf_match3 hd
  · exact nv_word (novw_of (by decide +kernel))
  · exact NoV.no fun G deep hd => vf_match hd (c := true) (b := false) (pairs_no (by simp) (pair_int 1)) ti
  · exact NoV.no fun G deep hd => vf_cap hd (b := false) (c := true) hb (by rw [between_val]; rfl)
  · exact NoV.no fun G deep hd => vf_match hd (b := true) (c := false) pairs_one hb
  · exact NoV.no fun G deep hd => vf_rows hd (lists_no (bs := [false]) (by simp) (by simp) ⟨_, _, rfl, hb, rfl⟩ rfl)
  · exact NoV.no fun G deep hd => vf_rows hd (lists_no (bs := [true, false]) (by simp) (by simp) ⟨_, _, rfl, ti, _, _, rfl, hb, rfl⟩ rfl)
  · exact NoV.no fun G deep hd => vf_keep hd hb
/-! spoiled -/
theorem sp_all {k : Nat} {G : D → Int → Int → D → Res D} {t : D} {cell bad : Int} (ht : TmD k t) (hk : k ≤ 12) : Ok (tb_l_view_spoiled G (.tup [.str "all"]) cell bad t) NoV := by
  unfold tb_l_view_spoiled
  have : (if cell % 3 = 0 then Res.ok true else ((dIx (.tup [.str "all"]) (D.int (0 : Int))).bind fun a1 => (rawB (dEq a1 (D.str ("all" : Str))))) : Res Bool) = .ok true := by
    rw [dIx_p0, Res.bind_ok, dEq_ss]
    split <;> rfl
  rw [this, Res.bind_ok, if_pos rfl]
  exact badview_ok bad ht hk .all
theorem sp_in {n k : Nat} {G : D → Int → Int → D → Res D} {o : Str} {xs : List D} {t v : D} {cell bad : Int} (ht : TmD k t) (hk : k ≤ 12) (ho : o ≠ "all") (hl : xs.length ≤ 10) (hv : VwD n (.tup (.str o :: (xs ++ [v])))) (h : Ok (G v (cell / 3) bad t) NoV)
    (fin : ∀ s, NoV s → NoV (.tup (.str o :: (xs ++ [s])))) : Ok (tb_l_view_spoiled G (.tup (.str o :: (xs ++ [v]))) cell bad t) NoV := by
  unfold tb_l_view_spoiled
  by_cases c : cell % 3 = 0
  · rw [if_pos c, Res.bind_ok, if_pos rfl]
    exact badview_ok bad ht hk hv
  · rw [if_neg c, dIx_p0, Res.bind_ok, dEq_ss, decide_eq_false ho, Res.bind_ok, if_neg (by decide)]
    have cu : dCut none (some (-(1 : Int))) (.tup (.str o :: (xs ++ [v]))) = .ok (.tup (.str o :: xs)) := by
      show Res.ok (D.tup (cutL (D.str o :: (xs ++ [v])) none (some (-((1 : Nat) : Int))))) = _
      rw [show D.str o :: (xs ++ [v]) = (D.str o :: xs) ++ [v] from rfl, (cut_neg (P := [v]) (k := 1) rfl (by decide)).2]
    have ix : dIx (.tup (.str o :: (xs ++ [v]))) (.int (-(1 : Int))) = .ok v := by
      have : atI (D.str o :: (xs ++ [v])) (-(1 : Int)) = some v := by
        rw [show D.str o :: (xs ++ [v]) = (D.str o :: xs) ++ [v] from rfl]
        exact atI_last _ _
      show (match atI (D.str o :: (xs ++ [v])) (-(1 : Int)) with | some d => Res.ok d | none => .bad) = _
      rw [this]
    obtain ⟨s, es, hs⟩ := h
    rw [cu, ix]
    simp only [Res.bind_ok, es, fPr_ap, fOne_ap]
    rw [dAdd_tup (by simp; omega)]
    exact ⟨_, rfl, fin s hs⟩
theorem VwD.spoil {k : Nat} {t : D} (ht : TmD k t) (hk : k ≤ 12) {n : Nat} {v : D} (h : VwD n v) : ∀ (i : Nat) (cell bad : Int), Ok (u_l_view_spoiled (n + i) v cell bad t) NoV := by
  induction h with
  | all => intro i cell bad; rw [show 1 + i = i + 1 by omega]; exact sp_all ht hk
  | @keep n t v ht' h ih =>
    intro i cell bad; rw [show n + 1 + i = n + i + 1 by omega]
    exact sp_in (G := u_l_view_spoiled (n + i)) (xs := [t]) ht hk (by decide +kernel) (by simp) (.keep ht' h) (ih i _ _) fun s hs => NoV.one (fun G deep hd => vf_keep hd ht'.is) hs
  | @rows n l v hl hp h ih =>
    intro i cell bad; rw [show n + 1 + i = n + i + 1 by omega]
    exact sp_in (G := u_l_view_spoiled (n + i)) (xs := [l]) ht hk (by decide +kernel) (by simp) (.rows hl hp h) (ih i _ _) fun s hs => NoV.one (fun G deep hd => vf_rows hd hl) hs
  | @unlike n v h ih =>
    intro i cell bad; rw [show n + 1 + i = n + i + 1 by omega]
    exact sp_in (G := u_l_view_spoiled (n + i)) (xs := []) ht hk (by decide +kernel) (by simp) (.unlike h) (ih i _ _) fun s hs => NoV.one (b := true) (fun G deep hd => vf_unlike hd) hs
  | @cap n t v q hq ht' h ih =>
    intro i cell bad; rw [show n + 1 + i = n + i + 1 by omega]
    exact sp_in (G := u_l_view_spoiled (n + i)) (xs := [t, .int q]) ht hk (by decide +kernel) (by simp) (.cap hq ht' h) (ih i _ _) fun s hs => NoV.one (fun G deep hd => vf_cap hd ht'.is (between_val _ _ _)) hs
  | @both n m v u h k' ih ik =>
    intro i cell bad; rw [show max n m + 1 + i = max n m + i + 1 by omega]
    have e2 := ik (max n m - m + i) (cell / 3) bad
    rw [show m + (max n m - m + i) = max n m + i by omega] at e2
    exact sp_in (G := u_l_view_spoiled (max n m + i)) (xs := [v]) ht hk (by decide +kernel) (by simp) (.both h k') e2 fun s hs => (FitsV.two h.at hs).eq fun n => by simp
  | @mtch n l t v hl hp ht' h ih =>
    intro i cell bad; rw [show n + 1 + i = n + i + 1 by omega]
    exact sp_in (G := u_l_view_spoiled (n + i)) (xs := [l, t]) ht hk (by decide +kernel) (by simp) (.mtch hl hp ht' h) (ih i _ _) fun s hs => NoV.one (fun G deep hd => vf_match hd hl ht'.is) hs
/-! how deep -/
theorem dp_one {G : D → Res Int} {o : Str} {xs : List D} {v : D} {n : Nat} (ho : o ≠ "all") (hb : o ≠ "both") (h : G v = .ok (n : Int)) : tb_l_view_deep G (.tup (.str o :: (xs ++ [v]))) = .ok ((n + 1 : Nat) : Int) := by
  unfold tb_l_view_deep
  have ix : dIx (.tup (.str o :: (xs ++ [v]))) (.int (-(1 : Int))) = .ok v := by
    have : atI (D.str o :: (xs ++ [v])) (-(1 : Int)) = some v := by
      rw [show D.str o :: (xs ++ [v]) = (D.str o :: xs) ++ [v] from rfl]
      exact atI_last _ _
    show (match atI (D.str o :: (xs ++ [v])) (-(1 : Int)) with | some d => Res.ok d | none => .bad) = _
    rw [this]
  rw [dIx_p0, ix]
  simp only [Res.bind_ok, dEq_ss, decide_eq_false ho, decide_eq_false hb, Bool.false_eq_true, if_false, h]
  congr 1
  omega
theorem VwD.deep {n : Nat} {v : D} (h : VwD n v) : ∀ i : Nat, u_l_view_deep (n + i) v = .ok (n : Int) := by
  induction h with
  | all => intro i; rw [show 1 + i = i + 1 by omega]; rfl
  | @keep n t v ht' h ih => intro i; rw [show n + 1 + i = n + i + 1 by omega]; exact dp_one (xs := [t]) (by decide +kernel) (by decide +kernel) (ih i)
  | @rows n l v hl hp h ih => intro i; rw [show n + 1 + i = n + i + 1 by omega]; exact dp_one (xs := [l]) (by decide +kernel) (by decide +kernel) (ih i)
  | @unlike n v h ih => intro i; rw [show n + 1 + i = n + i + 1 by omega]; exact dp_one (xs := []) (by decide +kernel) (by decide +kernel) (ih i)
  | @cap n t v q hq ht' h ih => intro i; rw [show n + 1 + i = n + i + 1 by omega]; exact dp_one (xs := [t, .int q]) (by decide +kernel) (by decide +kernel) (ih i)
  | @both n m v u h k ih ik =>
    intro i; rw [show max n m + 1 + i = max n m + i + 1 by omega]
    have e1 := ih (max n m - n + i)
    have e2 := ik (max n m - m + i)
    rw [show n + (max n m - n + i) = max n m + i by omega] at e1
    rw [show m + (max n m - m + i) = max n m + i by omega] at e2
    show tb_l_view_deep (u_l_view_deep (max n m + i)) _ = _
    unfold tb_l_view_deep
    rw [dIx_p0, dIx_p1, dIx_p2]
    simp only [Res.bind_ok, dEq_ss, decide_eq_false (show ¬ ("both" : Str) = "all" by decide +kernel), decide_true, Bool.false_eq_true, if_false, if_true, e1, e2]
    congr 1
    omega
  | @mtch n l t v hl hp ht' h ih => intro i; rw [show n + 1 + i = n + i + 1 by omega]; exact dp_one (xs := [l, t]) (by decide +kernel) (by decide +kernel) (ih i)
/-! ### k40: views grown from a script -/
theorem TmD.tg {n : Nat} {t : D} (h : TmD n t) (k : n ≤ 12) : TG t := ⟨n, h, k⟩
theorem repT_n {α : Type} (a : α) {w : Nat} (h : 1 ≤ w ∧ w ≤ 1000) : repT [a] (w : Int) = .ok (List.replicate w a) := by
  unfold repT
  by_cases q : w = 1
  · subst q
    rfl
  · rw [if_neg (by omega), if_pos ⟨by omega, by omega, by simp, by simp⟩, Int.toNat_natCast]
    congr 1
    have : ∀ n : Nat, (List.replicate n [a]).flatten = List.replicate n a := by
      intro n
      induction n with
      | zero => rfl
      | succ n ih => rw [List.replicate_succ, List.flatten_cons, ih, List.replicate_succ]; rfl
    exact this w
theorem listsby_ok {t : D} (cell : Int) (ht : TG t) : Ok (t_l_lists_by cell t) fun ls => t_are_lists (.tup (ls.map D.tup)) = .ok true ∧ ∀ m, 20 ≤ m → (D.tup (ls.map D.tup)).pl m = true := by
  unfold t_l_lists_by
  rw [Res.bind_ok]
  have c0 := Int.emod_nonneg (cell / 4) (b := 4) (by decide)
  have c1 := Int.emod_lt_of_pos (cell / 4) (b := 4) (by decide)
  have d0 := Int.emod_nonneg cell (b := 4) (by decide)
  have d1 := Int.emod_lt_of_pos cell (b := 4) (by decide)
  obtain ⟨w, hw⟩ := Int.eq_ofNat_of_zero_le c0
  obtain ⟨c, hc⟩ := Int.eq_ofNat_of_zero_le d0
  rw [hw] at c1 ⊢
  rw [hc] at d1 ⊢
  rw [show (1 : Int) + (w : Int) = ((w + 1 : Nat) : Int) by omega, show (1 : Int) + (c : Int) = ((c + 1 : Nat) : Int) by omega, rng1_ok (by omega) (by omega), Res.bind_ok, rangeI_nat]
  have loop : ∀ k : Nat, k ≤ 10 → Ok (DL.forR ((List.range k).map fun (i : Nat) => (i : Int)) ([] : List (List D)) (fun k3 s2 =>
      (((((repT [t] ((w + 1 : Nat) : Int)).bind fun b5 => (catR [((fPr (fCons D.str (fOne D.int))) (("num" : Str), k3))] b5)).bind fun z => .ok (cutL z none (some ((w + 1 : Nat) : Int)))).bind fun a6 => .ok (a6 :: [])).bind fun b9 => (catR s2 b9)).bind fun some_10 =>
      Res.ok some_10)) fun ls => ls.length = k ∧ ∀ L ∈ ls, L.length = w + 1 ∧ ∀ t ∈ L, TG t := by
    intro k
    induction k with
    | zero => intro _; exact ⟨[], rfl, rfl, fun L h => by cases h⟩
    | succ k ih =>
      intro hk
      obtain ⟨ls, e, h1, h2⟩ := ih (by omega)
      rw [List.range_succ, List.map_append, forR_app', e, Res.bind_ok, List.map_cons, List.map_nil, forR_one', repT_n t (by omega), Res.bind_ok, catR_okT (by simp; omega)]
      simp only [Res.bind_ok]
      rw [catR_okT (by simp; omega)]
      refine ⟨_, rfl, by simp [h1], ?_⟩
      intro L hL
      rcases List.mem_append.mp hL with h | h
      · exact h2 L h
      · rw [List.mem_singleton] at h
        subst h
        rw [(cut_at (k := w + 1) (by simp)).1]
        refine ⟨by simp, fun x hx => ?_⟩
        have hx := List.mem_of_mem_take hx
        rw [List.mem_append, List.mem_singleton, List.mem_replicate] at hx
        rcases hx with h | h
        · subst h
          exact ⟨1, .num (by omega), by decide⟩
        · rw [h.2]; exact ht
  obtain ⟨ls, e, h1, h2⟩ := loop (c + 1) (by omega)
  rw [e, Res.bind_ok]
  refine ⟨ls, rfl, lists_ok (d := w + 1) (by omega) (by omega) fun L hL => ⟨(h2 L hL).1, fun t h => ((h2 L hL).2 t h).is⟩, fun m hm => ?_⟩
  obtain ⟨m, rfl⟩ : ∃ k, m = k + 2 := ⟨m - 2, by omega⟩
  simp only [D.pl]
  refine pls_all fun d hd => ?_
  obtain ⟨L, hL, rfl⟩ := List.mem_map.mp hd
  simp only [D.pl]
  exact pls_all fun x hx => ((h2 L hL).2 x hx).pl (by omega)
theorem pr_ap (p : Int × List Int) : (fPr (fCons D.int (fOne ans))) p = pr40 p := rfl
theorem pairsby_ok (cell : Int) : Ok (t_l_pairs_by cell) fun ps => t_are_pairs (.tup (ps.map pr40)) = .ok true ∧ ∀ m, 20 ≤ m → (D.tup (ps.map pr40)).pl m = true := by
  unfold t_l_pairs_by
  rw [Res.bind_ok, Res.bind_ok]
  have c0 := Int.emod_nonneg (cell / 9) (b := 4) (by decide)
  have c1 := Int.emod_lt_of_pos (cell / 9) (b := 4) (by decide)
  have d0 := Int.emod_nonneg cell (b := 9) (by decide)
  have d1 := Int.emod_lt_of_pos cell (b := 9) (by decide)
  have e0 := Int.emod_nonneg (cell / 36) (b := 10 ^ 18 + 1) (by decide)
  have e1 := Int.emod_lt_of_pos (cell / 36) (b := 10 ^ 18 + 1) (by decide)
  obtain ⟨w, hw⟩ := Int.eq_ofNat_of_zero_le c0
  obtain ⟨c, hc⟩ := Int.eq_ofNat_of_zero_le d0
  rw [hw] at c1 ⊢
  rw [hc] at d1 ⊢
  rw [show (1 : Int) + (w : Int) = ((w + 1 : Nat) : Int) by omega, rng1_ok (by omega) (by omega), Res.bind_ok, rangeI_nat]
  have loop : ∀ k : Nat, k ≤ 10 → Ok (DL.forR ((List.range k).map fun (i : Nat) => (i : Int)) ([] : List (Int × List Int)) (fun k4 s3 =>
      ((modR (cell / (36 : Int)) ((10 ^ 18 : Int) + (1 : Int))).bind fun a7 => ((mulR (2 : Int) (k4 % (2 : Int))).bind fun b6 => .ok ((1 : Int) - b6)).bind fun b8 => (mulR a7 b8)).bind fun n9 =>
      ((((divR n9 (k4 + (1 : Int))).bind fun a10 => .ok (a10, (cutL [n9, (10 ^ 18 : Int), (-(10 ^ 18 : Int)), k4] none (some ((w + 1 : Nat) : Int))))).bind fun a12 => .ok (a12 :: [])).bind fun b15 => (catR s3 b15)).bind fun some_16 =>
      Res.ok some_16)) fun ps => ps.length = k ∧ ∀ p ∈ ps, (-1000000000000000000 ≤ p.1 ∧ p.1 ≤ 1000000000000000000) ∧ p.2.length = w + 1 ∧ ∀ z ∈ p.2, -1000000000000000000 ≤ z ∧ z ≤ 1000000000000000000 := by
    intro k
    induction k with
    | zero => intro _; exact ⟨[], rfl, rfl, fun L h => by cases h⟩
    | succ k ih =>
      intro hk
      obtain ⟨ps, e, h1, h2⟩ := ih (by omega)
      have k2 : (k : Int) % 2 = 0 ∨ (k : Int) % 2 = 1 := by omega
      obtain ⟨n, en, nb⟩ : ∃ n, (((modR (cell / (36 : Int)) ((10 ^ 18 : Int) + (1 : Int))).bind fun a7 => ((mulR (2 : Int) ((k : Int) % (2 : Int))).bind fun b6 => .ok ((1 : Int) - b6)).bind fun b8 => (mulR a7 b8)) : Res Int) = .ok n ∧ (-1000000000000000000 ≤ n ∧ n ≤ 1000000000000000000) := by
        rw [modR_pos (by decide), Res.bind_ok, mulR_s (by decide) (by decide) (by omega) (by omega)]
        simp only [Res.bind_ok]
        rcases k2 with k2 | k2
        · rw [k2, mulR_s (by omega) (by omega) (by decide) (by decide)]
          exact ⟨_, rfl, by omega⟩
        · rw [k2, mulR_s (by omega) (by omega) (by decide) (by decide)]
          exact ⟨_, rfl, by omega⟩
      rw [List.range_succ, List.map_append, forR_app', e, Res.bind_ok, List.map_cons, List.map_nil, forR_one', en, Res.bind_ok, divR_s (by omega) (by omega)]
      simp only [Res.bind_ok]
      rw [catR_okT (by simp; omega)]
      refine ⟨_, rfl, by simp [h1], ?_⟩
      intro p hp
      rcases List.mem_append.mp hp with h | h
      · exact h2 p h
      · rw [List.mem_singleton] at h
        subst h
        rw [(cut_at (k := w + 1) (by simp; omega)).1]
        refine ⟨?_, by simp; omega, fun x hx => ?_⟩
        · constructor
          · exact Int.le_ediv_of_mul_le (by omega) (by have : (-1000000000000000000 : Int) * ((k : Int) + 1) ≤ -1000000000000000000 * 1 := Int.mul_le_mul_of_nonpos_left (by omega) (by omega); omega)
          · by_cases q : 0 ≤ n
            · exact Int.le_trans (Int.ediv_le_self _ q) nb.2
            · exact Int.le_trans (Int.le_of_lt (Int.ediv_neg_of_neg_of_pos (by omega) (by omega))) (by omega)
        · have := List.mem_of_mem_take hx
          simp only [List.mem_cons, List.not_mem_nil, or_false] at this
          rcases this with h | h | h | h <;> subst h <;> omega
  obtain ⟨ps, e, h1, h2⟩ := loop c (by omega)
  rw [e, Res.bind_ok]
  refine ⟨ps, rfl, pairs_ok (d := w + 1) (by omega) (by omega) h2, fun m hm => ?_⟩
  obtain ⟨m, rfl⟩ : ∃ k, m = k + 3 := ⟨m - 3, by omega⟩
  simp only [D.pl]
  refine pls_all fun d hd => ?_
  obtain ⟨p, hp, rfl⟩ := List.mem_map.mp hd
  unfold pr40 ans
  simp only [D.pl, D.pls, Bool.and_true, Bool.true_and]
  exact pls_all fun x hx => by obtain ⟨z, _, rfl⟩ := List.mem_map.mp hx; simp [D.pl]
/-! the loop -/
theorem put_last {α : Type} (F : List α) (v x : α) : putLR (F ++ [v]) (-(1 : Int)) x = .ok (F ++ [x]) := by
  unfold putLR
  have : ixN (F ++ [v]).length (-(1 : Int)) = some F.length := by
    unfold ixN
    rw [if_neg (by omega), if_pos (by simp; omega)]
    congr 1
    simp
    omega
  rw [this]
  simp
theorem get_last {α : Type} (F : List α) (v : α) : getL (F ++ [v]) (-(1 : Int)) = .ok v := by
  unfold getL
  rw [atI_last]
theorem ne_all {o : Str} {xs : List D} (h : (D.tup (.str o :: xs)).pl 60 = true) (ho : o ≠ "all") : rawB (dNe (.tup (.str o :: xs)) ((fPr (fOne D.str)) ("all" : Str))) = .ok true := by
  have p2 : (D.tup [.str "all"]).pl 60 = true := by simp [D.pl, D.pls, sop "all" (by simp)]
  have b : D.beq (.tup (.str o :: xs)) (.tup [.str "all"]) = false := by
    simp [D.beq, D.py, D.pys, PyData.eqv, PyData.eqvAll, ho]
  show rawB (if _ then Res.ok (D.bl (!D.beq (.tup (.str o :: xs)) (.tup [.str "all"]))) else .bad) = _
  rw [if_pos ⟨h, p2⟩, b]
  rfl
theorem eq_all : rawB (dNe (.tup [.str "all"]) ((fPr (fOne D.str)) ("all" : Str))) = .ok false := by
  have p2 : (D.tup [.str "all"]).pl 60 = true := by simp [D.pl, D.pls, sop "all" (by simp)]
  have b : D.beq (.tup [.str "all"]) (.tup [.str "all"]) = true := by
    simp [D.beq, D.py, D.pys, PyData.eqv, PyData.eqvAll]
  show rawB (if _ then Res.ok (D.bl (!D.beq (.tup [.str "all"]) (.tup [.str "all"]))) else .bad) = _
  rw [if_pos ⟨p2, p2⟩, b]
  rfl
def VI (m : Nat) (s : List D × Int) : Prop := ∃ (F : List D) (v : D) (n : Nat), s.1 = F ++ [v] ∧ (∀ u ∈ F, ∃ n, VwD n u ∧ n ≤ 6) ∧ VwD n v ∧ s.2 = (n : Int) ∧ n ≤ 6 ∧ F.length ≤ m
/-- behind a form -/
noncomputable def tailV (z12 : List D × Int) : Res (List D × Int) :=
  (((getL z12.1 (-(1 : Int))).bind fun a37 => (rawB (dNe a37 ((fPr (fOne D.str)) ("all" : Str))))).bind fun z => if z = true then Res.ok (z12.2 + (1 : Int)) else Res.ok z12.2 : Res (Int)).bind fun z39 =>
  Res.ok (z12.1, z39)
theorem tail_ok {m n k : Nat} {F : List D} {o : Str} {xs : List D} (hF : ∀ u ∈ F, ∃ n, VwD n u ∧ n ≤ 6) (hl : F.length ≤ m) (h : VwD (n + 1) (.tup (.str o :: xs))) (ho : o ≠ "all") (hn : n + 1 ≤ 6) : Ok (tailV (F ++ [.tup (.str o :: xs)], (n : Int))) (VI m) := by
  unfold tailV
  rw [get_last, Res.bind_ok, ne_all (h.pl 60 (by omega)) ho, Res.bind_ok, if_pos rfl]
  exact ⟨_, rfl, F, _, n + 1, rfl, hF, h, by show (n : Int) + 1 = _; omega, hn, hl⟩
noncomputable def stepV (cell5 way11 : Int) (term8 view9 : D) (s2 : List D × Int) : Res (List D × Int) :=
  (if s2.2 = (6 : Int) then (appR s2.1 ((fPr (fOne D.str)) ("all" : Str))).bind fun made13 =>
  Res.ok (made13, (1 : Int)) else (if way11 < (2 : Int) then (putLR s2.1 (-(1 : Int)) ((fPr (fCons D.str (fCons (fun d => d) (fOne (fun d => d))))) (("keep" : Str), term8, view9))).bind fun made15 =>
  Res.ok (made15, s2.2) else (if way11 = (2 : Int) then (((((t_l_lists_by cell5 term8).bind fun a18 => .ok (a18, view9)).bind fun b21 => .ok (("rows" : Str), b21)).bind fun z => .ok ((fPr (fCons D.str (fCons (fTup (fTup (fun d => d))) (fOne (fun d => d))))) z)).bind fun a22 => putLR s2.1 (-(1 : Int)) a22).bind fun made17 =>
  Res.ok (made17, s2.2) else (if way11 = (3 : Int) then (putLR s2.1 (-(1 : Int)) ((fPr (fCons D.str (fOne (fun d => d)))) (("unlike" : Str), view9))).bind fun made25 =>
  Res.ok (made25, s2.2) else (if way11 = (4 : Int) then (putLR s2.1 (-(1 : Int)) ((fPr (fCons D.str (fCons (fun d => d) (fCons D.int (fOne (fun d => d)))))) (("cap" : Str), term8, ((1 : Int) + (cell5 % (40 : Int))), view9))).bind fun made27 =>
  Res.ok (made27, s2.2) else (if way11 = (5 : Int) then (putLR s2.1 (-(1 : Int)) ((fPr (fCons D.str (fCons (fPr (fCons D.str (fOne (fPr (fOne D.str))))) (fOne (fun d => d))))) (("both" : Str), (("unlike" : Str), ("all" : Str)), view9))).bind fun made29 =>
  Res.ok (made29, (max s2.2 (2 : Int))) else (((((t_l_pairs_by cell5).bind fun a31 => .ok (a31, term8, view9)).bind fun b34 => .ok (("match" : Str), b34)).bind fun z => .ok ((fPr (fCons D.str (fCons (fTup (fPr (fCons D.int (fOne ans)))) (fCons (fun d => d) (fOne (fun d => d)))))) z)).bind fun a35 => putLR s2.1 (-(1 : Int)) a35).bind fun made30 =>
  Res.ok (made30, s2.2) : Res ((List D) × Int)).bind fun z28 =>
  Res.ok (z28.1, z28.2) : Res ((List D) × Int)).bind fun z26 =>
  Res.ok (z26.1, z26.2) : Res ((List D) × Int)).bind fun z24 =>
  Res.ok (z24.1, z24.2) : Res ((List D) × Int)).bind fun z16 =>
  Res.ok (z16.1, z16.2) : Res ((List D) × Int)).bind fun z14 =>
  Res.ok (z14.1, z14.2) : Res ((List D) × Int)).bind fun z12 => tailV z12
theorem stepV_ok {m : Nat} {cell way : Int} {t v : D} {F : List D} {n : Nat} (ht : TG t) (hF : ∀ u ∈ F, ∃ n, VwD n u ∧ n ≤ 6) (hv : VwD n v) (hn : n ≤ 6) (hl : F.length ≤ m) (hm : m ≤ 1000) : Ok (stepV cell way t v (F ++ [v], (n : Int))) (VI (m + 1)) := by
  unfold stepV
  by_cases c : (n : Int) = 6
  · rw [if_pos c, appR_ok (by simp; omega)]
    simp only [Res.bind_ok]
    unfold tailV
    rw [get_last, Res.bind_ok, show ((fPr (fOne D.str)) ("all" : Str)) = D.tup [.str "all"] from rfl]
    have := eq_all
    rw [show ((fPr (fOne D.str)) ("all" : Str)) = D.tup [.str "all"] from rfl] at this
    rw [this]
    refine ⟨_, rfl, F ++ [v], _, 1, rfl, fun u hu => ?_, .all, rfl, by decide, by simp; omega⟩
    rcases List.mem_append.mp hu with h | h
    · exact hF u h
    · rw [List.mem_singleton] at h; subst h; exact ⟨n, hv, hn⟩
  · rw [if_neg c]
    have hn : n + 1 ≤ 6 := by omega
    by_cases w2 : way < 2
    · rw [if_pos w2, put_last]
      simp only [Res.bind_ok]
      exact tail_ok (k := 0) (o := "keep") (xs := [t, v]) hF (by omega) (.keep ht hv) (by decide +kernel) hn
    · rw [if_neg w2]
      by_cases w3 : way = 2
      · obtain ⟨ls, e, h1, h2⟩ := listsby_ok cell ht
        rw [if_pos w3, e]
        simp only [Res.bind_ok, put_last, fPr_ap, fCons_ap, fOne_ap, fTup_id, fTup_ap]
        exact tail_ok (k := 0) hF (by omega) (.rows h1 h2 hv) (by decide +kernel) hn
      · rw [if_neg w3]
        by_cases w4 : way = 3
        · rw [if_pos w4, put_last]
          simp only [Res.bind_ok]
          exact tail_ok (k := 0) (o := "unlike") (xs := [v]) hF (by omega) (.unlike hv) (by decide +kernel) hn
        · rw [if_neg w4]
          by_cases w5 : way = 4
          · rw [if_pos w5, put_last]
            simp only [Res.bind_ok]
            have c0 := Int.emod_nonneg cell (b := 40) (by decide)
            have c1 := Int.emod_lt_of_pos cell (b := 40) (by decide)
            exact tail_ok (k := 0) (o := "cap") (xs := [t, .int (1 + cell % 40), v]) hF (by omega) (.cap (by omega) ht hv) (by decide +kernel) hn
          · rw [if_neg w5]
            by_cases w6 : way = 5
            · rw [if_pos w6, put_last]
              simp only [Res.bind_ok]
              have hp := hv.pos
              rw [show max (n : Int) 2 = ((max (1 + 1) n : Nat) : Int) by omega]
              exact tail_ok (k := 0) (o := "both") (xs := [.tup [.str "unlike", .tup [.str "all"]], v]) hF (by omega) (.both (.unlike .all) hv) (by decide +kernel) (by omega)
            · obtain ⟨ps, e, h1, h2⟩ := pairsby_ok cell
              rw [if_neg w6, e]
              simp only [Res.bind_ok, put_last, fPr_ap, fCons_ap, fOne_ap, fTup_ap]
              exact tail_ok (k := 0) hF (by omega) (.mtch h1 h2 ht hv) (by decide +kernel) hn
theorem viewgrown_ok {cells : List Int} {ts : List D} (hc : cells.length ≤ 100) (ht : ∀ t ∈ ts, TG t) (hn : ts ≠ []) : Ok (t_l_view_grown cells ts) fun vs => (∀ v ∈ vs, ∃ n, VwD n v ∧ n ≤ 6) ∧ vs ≠ [] ∧ vs.length ≤ 1000 := by
  have tl : 0 < ts.length := List.length_pos_iff.mpr hn
  have e' : t_l_view_grown cells ts = (Res.ok [((fPr (fOne D.str)) ("all" : Str))]).bind fun made1 => ((rng1 ((cells.length : Nat) : Int)).bind fun l40 => DL.forR l40 (made1, (1 : Int)) (fun k3 s2 =>
    ((getL cells k3).bind fun a4 => .ok (a4 / (7 : Int))).bind fun cell5 =>
    ((modR k3 ((ts.length : Nat) : Int)).bind fun b7 => (getL ts b7)).bind fun term8 =>
    (getL s2.1 (-(1 : Int))).bind fun view9 =>
    ((getL cells k3).bind fun a10 => .ok (a10 % (7 : Int))).bind fun way11 => stepV cell5 way11 term8 view9 s2)).bind fun s2 => Res.ok s2.1 := rfl
  rw [e', Res.bind_ok, rng1_ok (by omega) (by omega), Res.bind_ok, rangeI_nat]
  have loop : ∀ k : Nat, k ≤ cells.length → Ok (DL.forR ((List.range k).map fun (i : Nat) => (i : Int)) ([((fPr (fOne D.str)) ("all" : Str))], (1 : Int)) (fun k3 s2 =>
    ((getL cells k3).bind fun a4 => .ok (a4 / (7 : Int))).bind fun cell5 =>
    ((modR k3 ((ts.length : Nat) : Int)).bind fun b7 => (getL ts b7)).bind fun term8 =>
    (getL s2.1 (-(1 : Int))).bind fun view9 =>
    ((getL cells k3).bind fun a10 => .ok (a10 % (7 : Int))).bind fun way11 => stepV cell5 way11 term8 view9 s2)) (VI k) := by
    intro k
    induction k with
    | zero => intro _; exact ⟨_, rfl, [], _, 1, rfl, (fun u h => by cases h), .all, rfl, by decide, by simp⟩
    | succ k ih =>
      intro hk
      obtain ⟨⟨vs, d⟩, e, F, v, n, e1, h1, h2, e2, h3, h4⟩ := ih (by omega)
      have e1 : vs = F ++ [v] := e1
      have e2 : d = (n : Int) := e2
      subst e1 e2
      obtain ⟨t, mt, et⟩ := getL_mem (l := ts) (i := (k : Int) % ((ts.length : Nat) : Int)) (by have := Int.emod_nonneg (k : Int) (b := ((ts.length : Nat) : Int)) (by omega); omega) (Int.emod_lt_of_pos _ (by omega))
      rw [List.range_succ, List.map_append, forR_app', e, Res.bind_ok, List.map_cons, List.map_nil, forR_one', getL_nat (show cells[k]? = some (cells[k]'(by omega)) by simp), modR_pos (by omega)]
      simp only [Res.bind_ok, et, get_last]
      exact stepV_ok (ht t mt) h1 h2 h3 h4 (by omega)
  obtain ⟨⟨vs, d⟩, e, F, v, n, e1, h1, h2, e2, h3, h4⟩ := loop cells.length (Nat.le_refl _)
  have e1 : vs = F ++ [v] := e1
  subst e1
  rw [e, Res.bind_ok]
  refine ⟨_, rfl, fun u hu => ?_, by simp, by simp; omega⟩
  rcases List.mem_append.mp hu with h | h
  · exact h1 u h
  · rw [List.mem_singleton] at h; subst h; exact ⟨n, h2, h3⟩
/-! measures -/
theorem TmD.nom {n : Nat} {t : D} (h : TmD n t) : t_is_measure t = .ok false := by
  have w : ∀ {o : Str} {xs : List D}, o ≠ "count" → o ≠ "kinds" → o ≠ "sum" → t_is_measure (.tup (.str o :: xs)) = .ok false := by
    intro o xs h1 h2 h3
    unfold t_is_measure
    simp only [headed_ok, Res.bind_ok, Bool.not_true, Bool.false_eq_true, if_false, dIx_p0, dEq_ss, dNe_ss, decide_eq_true_eq, h1, h2, h3, decide_false, Bool.not_false, if_true]
  cases h with
  | num h => exact w (by decide +kernel) (by decide +kernel) (by decide +kernel)
  | field h => exact w (by decide +kernel) (by decide +kernel) (by decide +kernel)
  | name h k => exact w (by decide +kernel) (by decide +kernel) (by decide +kernel)
  | un h => exact w (by decide +kernel) (by decide +kernel) (by decide +kernel)
  | bin ho h k =>
    have : ∀ o ∈ (["add", "sub", "less", "same", "mul", "quo", "both", "any"] : List Str), o ≠ "count" ∧ o ≠ "kinds" ∧ o ≠ "sum" := by decide +kernel
    obtain ⟨a, b, c⟩ := this _ ho
    exact w a b c
  | pick h k q => exact w (by decide +kernel) (by decide +kernel) (by decide +kernel)
theorem ms_kinds {t : D} {b : Bool} (h : t_is_term t = .ok b) : t_is_measure (.tup [.str "kinds", t]) = .ok b := by
  unfold t_is_measure; simp [headed_ok, dIx_p0, dIx_p1, dLen, D.asI, h]
theorem ms_sum {t : D} {lo hi : Int} (h : t_is_term t = .ok true) : t_is_measure (.tup [.str "sum", t, .int lo, .int hi]) = .ok (decide (-64 ≤ lo ∧ lo ≤ 64) && (decide (-64 ≤ hi ∧ hi ≤ 64) && decide (lo ≤ hi))) := by
  unfold t_is_measure
  by_cases c1 : -64 ≤ lo ∧ lo ≤ 64 <;> by_cases c2 : -64 ≤ hi ∧ hi ≤ 64 <;> simp [headed_ok, dIx_p0, dIx_p1, dIx_p2, dIx_p3, dLen, D.asI, h, between_val, c1, c2]
theorem ms_sumno {t x y : D} (h : t_is_term t = .ok false) : t_is_measure (.tup [.str "sum", t, x, y]) = .ok false := by
  unfold t_is_measure
  simp [headed_ok, dIx_p0, dIx_p1, dIx_p2, dIx_p3, dLen, D.asI, h]
theorem measureby_ok {n : Nat} {t : D} (cell : Int) (ht : TmD n t) (hn : n ≤ 12) : Ok (t_l_measure_by cell t) fun r => t_is_measure r.1 = .ok r.2 := by
  have ti := (ht.tg hn).is
  unfold t_l_measure_by
  obtain ⟨bad, eb, hb⟩ := noterm_ok (t := t) (cell / 16)
  have hb : t_is_term bad = .ok false := hb
  rw [Res.bind_ok, Res.bind_ok, Res.bind_ok, Res.bind_ok, catR_okT (by simp), Res.bind_ok, catR_okT (by simp), Res.bind_ok, catR_okT (by simp), Res.bind_ok, eb, Res.bind_ok, catR_okT (by simp), Res.bind_ok]
  have m0 := Int.emod_nonneg cell (b := 16) (by decide)
  have m1 := Int.emod_lt_of_pos cell (b := 16) (by decide)
  have a0 := Int.emod_nonneg (cell / 7) (b := 131) (by decide)
  have a1 := Int.emod_lt_of_pos (cell / 7) (b := 131) (by decide)
  have b0 := Int.emod_nonneg (cell / 917) (b := 40) (by decide)
  have b1 := Int.emod_lt_of_pos (cell / 917) (b := 40) (by decide)
  have c0 := Int.emod_nonneg (cell / 7) (b := 60) (by decide)
  have c1 := Int.emod_lt_of_pos (cell / 7) (b := 60) (by decide)
  refine Exists.imp (fun d h => ⟨h.2, ?_⟩) (getL_mem (i := cell % 16) (by omega) (by simp; omega))
  have h := h.1
  simp only [fPr_ap, fCons_ap, fOne_ap, List.mem_append, List.mem_cons, List.not_mem_nil, or_false] at h
  rcases h with ((((rfl | rfl | rfl) | (rfl | rfl | rfl)) | (rfl | rfl | rfl)) | (rfl | rfl | rfl | rfl)) | (rfl | rfl | rfl)
  · unfold t_is_measure; simp [headed_ok, dIx_p0, dLen, D.asI]
  · exact ms_kinds ti
  · show t_is_measure (.tup [.str "sum", t, .int _, .int _]) = _
    rw [ms_sum ti]
    congr 1
    rw [Bool.eq_iff_iff]
    simp only [Bool.and_eq_true, decide_eq_true_eq]
    omega
  · show t_is_measure (.tup [.str "sum", t, .int _, .int _]) = _
    rw [ms_sum ti, decide_eq_false (show ¬ ((1 : Int) + cell / 7 % 60 ≤ 0) by omega), Bool.and_false, Bool.and_false]
  · unfold t_is_measure; simp [headed_ok, dIx_p0, dLen, D.asI]
  · unfold t_is_measure; simp [headed_ok, dIx_p0, dLen, D.asI]
  · exact ms_sumno (int_noterm _)
  · exact ms_kinds (nt_leaf (.inl ⟨rfl, by unfold t_is_number; exact between_no _ _ rfl⟩)).isn
  · unfold t_is_measure; simp [headed_ok, dIx_p0, dLen, D.asI]
  · unfold t_is_measure t_headed; simp [DL.isTup, dLen, D.asI]
  · unfold t_is_measure; simp [headed_ok, dIx_p0, dLen, D.asI]
  · exact ht.nom
  · unfold t_is_measure t_headed; simp [DL.isTup, D.tyN]
  · show t_is_measure (.tup [.str "sum", t, .int _, .int _]) = _
    rw [ms_sum ti]
    rfl
  · exact ms_sumno hb
  · exact ms_kinds hb
/-! the law -/
theorem isview_at {d : D} {g : Nat → Bool} (h : FitsV d g) : t_is_view d = .ok (g 6) := h 6 5
theorem vwrap_ok {n : Nat} {v : D} (c : Int) (h : VwD n v) : ∀ m : Nat, Ok (DL.forR ((List.range m).map fun (i : Nat) => (i : Int)) v (fun j26 s25 =>
  (getL [((fPr (fCons D.str (fOne (fun d => d)))) (("unlike" : Str), s25)), ((fPr (fCons D.str (fCons (fPr (fCons D.str (fOne D.int))) (fOne (fun d => d))))) (("keep" : Str), (("num" : Str), (1 : Int)), s25)), ((fPr (fCons D.str (fCons (fun d => d) (fOne (fPr (fOne D.str)))))) (("both" : Str), s25, ("all" : Str)))] ((c + j26) % (3 : Int))).bind fun view27 =>
  Res.ok view27)) (VwD (n + m))
  | 0 => ⟨v, rfl, h⟩
  | m + 1 => by
    obtain ⟨t', e, h'⟩ := vwrap_ok c h m
    rw [List.range_succ, List.map_append, forR_app', e, Res.bind_ok, List.map_cons, List.map_nil, forR_one']
    have m0 := Int.emod_nonneg (c + (m : Int)) (b := 3) (by decide)
    have m1 := Int.emod_lt_of_pos (c + (m : Int)) (b := 3) (by decide)
    obtain ⟨k, hk⟩ := Int.eq_ofNat_of_zero_le m0
    rw [hk] at m1 ⊢
    match k, m1 with
    | 0, _ => exact ⟨_, rfl, .unlike h'⟩
    | 1, _ => exact ⟨_, rfl, .keep ⟨1, .num (i := 1) (by decide), by decide⟩ h'⟩
    | 2, _ =>
      have := h'.pos
      refine ⟨_, rfl, ?_⟩
      have q := VwD.both h' .all
      rw [show max (n + m) 1 + 1 = n + (m + 1) by omega] at q
      exact q
theorem law_typed (s : List Int) (hl : s.length ≤ 63) (hb : ∀ z ∈ s, Sm 1048576 z) : t_law s = .ok true := by
  unfold t_law
  rw [catR_okT (by simp; omega), Res.bind_ok]
  obtain ⟨ts, e, h1, h2, h3⟩ := grown_ok (cells := s ++ [4]) (by simp) (by simp; omega)
  have ln : (s ++ [4]).length ≤ 64 := by simp; omega
  obtain ⟨vs, ev, g1, g2, g3⟩ := viewgrown_ok (cells := s ++ [4]) (ts := ts) (by omega) (fun t ht => by obtain ⟨n, a, b⟩ := h1 t ht; exact a.tg b) h2
  rw [e, Res.bind_ok, ev, Res.bind_ok]
  generalize s ++ [4] = cells at *
  rw [rng1_ok (by omega) (by omega), Res.bind_ok, forX_unit (fun k hk => ?second)]
  · rfl
  case second =>
    obtain ⟨k, kl, rfl⟩ : ∃ k' : Nat, k' < cells.length ∧ k = (k' : Int) := by
      unfold rangeI at hk
      obtain ⟨k', h, rfl⟩ := List.mem_map.mp hk
      have := List.mem_range.mp h
      exact ⟨k', by omega, by omega⟩
    have tl : 0 < ts.length := List.length_pos_iff.mpr h2
    have vl : 0 < vs.length := List.length_pos_iff.mpr g2
    obtain ⟨t, ht, et⟩ := getL_mem (l := ts) (i := (k : Int) % ((ts.length : Nat) : Int)) (by have := Int.emod_nonneg (k : Int) (b := ((ts.length : Nat) : Int)) (by omega); omega) (Int.emod_lt_of_pos _ (by omega))
    obtain ⟨v, hv, evw⟩ := getL_mem (l := vs) (i := (k : Int) % ((vs.length : Nat) : Int)) (by have := Int.emod_nonneg (k : Int) (b := ((vs.length : Nat) : Int)) (by omega); omega) (Int.emod_lt_of_pos _ (by omega))
    obtain ⟨kt, ht, tq⟩ := h1 t ht
    obtain ⟨n, hv, q⟩ := g1 v hv
    rw [getL_nat (show cells[k]? = some (cells[k]'kl) by simp [kl]), Res.bind_ok, modR_pos (by decide), Res.bind_ok, modR_pos (by omega), Res.bind_ok, et, Res.bind_ok, modR_pos (by omega), Res.bind_ok, evw, Res.bind_ok]
    generalize cells[k]'kl % 10 ^ 30 = cell
    obtain ⟨sp, es, hs⟩ := hv.spoil ht tq (12 - n) (cell / 30) cell
    rw [show n + (12 - n) = 12 by omega] at es
    have es : t_l_view_spoiled v (cell / 30) cell t = .ok sp := es
    have ed := hv.deep (12 - n)
    rw [show n + (12 - n) = 12 by omega] at ed
    have ed : t_l_view_deep v = .ok (n : Int) := ed
    have m0 := Int.emod_nonneg (cell / 2) (b := 7) (by decide)
    have m1 := Int.emod_lt_of_pos (cell / 2) (b := 7) (by decide)
    obtain ⟨m, hm⟩ := Int.eq_ofNat_of_zero_le m0
    rw [isview_at hv.at, decide_eq_true q, es, ed, hm]
    simp only [Res.bind_ok]
    rw [show rawB (dIsNot (D.bl true) (D.bl true)) = .ok false from rfl, Res.bind_ok, if_neg (by decide), isview_at hs]
    simp only [Res.bind_ok]
    rw [show rawB (dIsNot (D.bl false) (D.bl false)) = .ok false from rfl, Res.bind_ok, if_neg (by decide), rng1_ok (by omega) (by omega), Res.bind_ok, rangeI_nat]
    obtain ⟨u, eu, hu⟩ := vwrap_ok cell hv m
    rw [eu, Res.bind_ok, isview_at hu.at, Res.bind_ok]
    have eq : decide (n + m ≤ 6) = decide ((n : Int) + (m : Int) ≤ 6) := by
      apply decide_eq_decide.mpr
      omega
    rw [eq, if_neg (by simp)]
    obtain ⟨⟨ms, b⟩, er, hr⟩ := measureby_ok cell ht tq
    rw [er]
    simp only [Res.bind_ok]
    have hr : t_is_measure ms = .ok b := hr
    rw [hr, Res.bind_ok, if_neg (by simp)]
theorem law_holds (ns : List Int) (hl : ns.length ≤ 63) (hb : ∀ z ∈ ns, intBits z ≤ 1048576) : F_law [.lst (ns.map D.int)] = .ok (.bl true) := by
  obtain ⟨d, h1, h2⟩ := (r_law ns _ ⟨_, rfl, _, rfl, A2.fn.mpr rfl⟩).get (law_typed ns hl fun z hz => sm_bits (hb z hz))
  rw [h1, show d = _ from h2]

end DLaw
namespace DLaw
open PySem PySem.Spec PyProof.Rows L2
open DL
abbrev N_l_leaf_by : List Str := ["_law_cell", "_law_way", "_law_word"]
theorem sc_l_leaf_by : FnScope N_l_leaf_by ["_law_cell"] (defScope s_l_leaf_by) := ⟨rfl, rfl, rfl, by decide +kernel, rfl, by decide +kernel, by decide +kernel⟩
theorem ok_l_leaf_by {P : Program} {w : World} {K : PySem.W.Frag} {mg : Str → Option Value} {base : Heap} {f : Addr} {fd : FuncData} (T : Txt K mg w) (F : Fun K "_law_leaf_by" "_law_leaf_by" s_l_leaf_by f fd)  :
    FnOk P w K mg base (L2.CX P w) 1 f fd ["_law_cell"] (spD K mg 1 F_l_leaf_by) :=
  fnD (N := N_l_leaf_by) (k := 0) (fb := b_l_leaf_by) F sc_l_leaf_by fun cdv A outer s H G E hr tk hp =>
    by have hu := Room.hu hr; exact (dss_cons (ds_set (al := []) (i := 1) sc_l_leaf_by.nd rfl (by first | exact .inl rfl | exact .inr rfl) (de_bin od_mod (dr (dv 0)) (dr de_int))) (dss_cons (ds_if (al := []) (dt_cmp (od_eq hu) (dr (dv 1)) (dr de_int) (nomark _)) (dss_cons (ds_ret (al := []) (de_tup (da_cons de_str (da_cons (de_bin od_mod (dr (de_bin od_div (dr (dv 0)) (dr de_int))) (dr de_int)) da_nil)) (len_cons (len_cons len_nil)) (szl (by decide)))) dss_nil) dss_nil) (dss_cons (ds_if (al := []) (dt_cmp (od_eq hu) (dr (dv 1)) (dr de_int) (nomark _)) (dss_cons (ds_set (al := []) (i := 2) sc_l_leaf_by.nd rfl (by first | exact .inl rfl | exact .inr rfl) (de_ixA hr.hu1 (dr (de_of (df_lst (da_cons de_str (da_cons de_str (da_cons de_str (da_cons de_str (da_cons de_str (da_cons de_str (da_cons de_str (da_cons de_str da_nil)))))))) (len_cons (len_cons (len_cons (len_cons (len_cons (len_cons (len_cons (len_cons len_nil)))))))) (szl (by decide))))) (de_bin od_mod (dr (de_bin od_div (dr (dv 0)) (dr de_int))) (dr de_int)) (fun _ _ => rfl) (fun _ _ => rfl))) (dss_cons (ds_ret (al := []) (de_tup (da_cons de_str (da_cons (dv 2) da_nil)) (len_cons (len_cons len_nil)) (szl (by decide)))) dss_nil)) dss_nil) (dss_cons (ds_if (al := []) (dt_cmp (od_eq hu) (dr (dv 1)) (dr de_int) (nomark _)) (dss_cons (ds_ret (al := []) (de_tup (da_cons de_str (da_cons (de_bin od_sub (dr (de_bin od_mod (dr (de_bin od_div (dr (dv 0)) (dr de_int))) (dr (de_bin od_add (dr (de_bin od_mul (dr de_int) (dr (de_bin od_pow (dr de_int) (dr de_int))))) (dr de_int))))) (dr (de_bin od_pow (dr de_int) (dr de_int)))) da_nil)) (len_cons (len_cons len_nil)) (szl (by decide)))) dss_nil) dss_nil) (dss_cons (ds_ret (al := []) (de_tup (da_cons de_str (da_cons (de_ixA hr.hu1 (dr (de_of (df_lst (da_cons (de_bin od_pow (dr de_int) (dr de_int)) (da_cons (de_neg (de_bin od_pow (dr de_int) (dr de_int))) (da_cons de_int (da_cons (de_neg de_int) (da_cons de_int da_nil))))) (len_cons (len_cons (len_cons (len_cons (len_cons len_nil))))) (szl (by decide))))) (de_bin od_mod (dr (de_bin od_div (dr (dv 0)) (dr de_int))) (dr de_int)) (fun _ _ => rfl) (fun _ _ => rfl)) da_nil)) (len_cons (len_cons len_nil)) (szl (by decide)))) dss_nil)))))
abbrev N_l_grown : List Str := ["_law_cells", "_law_stack", "_law_deep", "_law_cell", "_law_way", "_law_many", "_law_op", "_law_made", "_law_least"]
theorem sc_l_grown : FnScope N_l_grown ["_law_cells"] (defScope s_l_grown) := ⟨rfl, rfl, rfl, by decide +kernel, rfl, by decide +kernel, by decide +kernel⟩
theorem ok_l_grown {P : Program} {w : World} {K : PySem.W.Frag} {mg : Str → Option Value} {base : Heap} {f : Addr} {fd : FuncData} (T : Txt K mg w) (F : Fun K "_law_grown" "_law_grown" s_l_grown f fd) (c_l_leaf_by : CallOk P w K mg base 1 "_law_leaf_by" ["_law_cell"] F_l_leaf_by) :
    FnOk P w K mg base (L2.CX P w) 2 f fd ["_law_cells"] (spD K mg 1 F_l_grown) :=
  fnD (N := N_l_grown) (k := 1) (fb := b_l_grown) F sc_l_grown fun cdv A outer s H G E hr tk hp =>
    by have hu := Room.hu hr; exact (dss_cons (ds_setF (al := []) (i := 1) sc_l_grown.nd rfl (by first | exact .inl rfl | exact .inr rfl) (df_lst da_nil len_nil (szl (by decide)))) (dss_cons (ds_setF (al := []) (i := 2) sc_l_grown.nd rfl (by first | exact .inl rfl | exact .inr rfl) (df_lst da_nil len_nil (szl (by decide)))) (dss_cons (ds_for (al := []) hp rfl (di_seq (dv 0)) (dg_name (i := 3) sc_l_grown.nd rfl (by first | exact .inl rfl | exact .inr rfl)) (fun _ => (dss_cons (ds_set (al := []) (i := 4) sc_l_grown.nd rfl (by first | exact .inl rfl | exact .inr rfl) (de_bin od_mod (dr (dv 3)) (dr de_int))) (dss_cons (ds_set (al := []) (i := 5) sc_l_grown.nd rfl (by first | exact .inl rfl | exact .inr rfl) (de_ixA hr.hu1 (dr (de_of (df_lst (da_cons de_int (da_cons de_int (da_cons de_int (da_cons de_int (da_cons de_int (da_cons de_int (da_cons de_int (da_cons de_int (da_cons de_int (da_cons de_int (da_cons de_int (da_cons de_int (da_cons de_int da_nil))))))))))))) (len_cons (len_cons (len_cons (len_cons (len_cons (len_cons (len_cons (len_cons (len_cons (len_cons (len_cons (len_cons (len_cons len_nil))))))))))))) (szl (by decide))))) (dv 4) (fun _ _ => rfl) (fun _ _ => rfl))) (dss_cons (ds_if (al := []) (dt_w (dw_or (dt_cmp (od_eq hu) (dr (dv 5)) (dr de_int) (nomark _)) (dw_or (dt_cmp (od_lt hu) (dr (de_b1 c1_len rfl T.z_len rfl (dr_var (i := 1) rfl (by first | exact .inl rfl | exact .inr (.inl rfl) | exact .inr (.inr rfl))))) (dr (dv 5)) (nomark _)) (dw_or1 (dt_cmp (od_eq hu) (dr (de_b1 (c1_maxL rfl) rfl T.z_max rfl (dr (de_cut (dr_var (i := 2) rfl (by first | exact .inl rfl | exact .inr (.inl rfl) | exact .inr (.inr rfl))) (do_some (de_neg (dv 5))) do_none)))) (dr de_int) (nomark _)))))) (dss_cons (ds_mut (al := []) (i := 1) PySem.F.slot_list_append PySem.F.type_list_append mut_append rfl (by first | exact .inl rfl | exact .inr (.inl rfl) | exact .inr (.inr rfl)) (da_cons (de_callE c_l_leaf_by hr rfl tk (da_cons (de_bin od_div (dr (dv 3)) (dr de_int)) da_nil) (leq_cons leq_nil)) da_nil)) (dss_cons (ds_mut (al := []) (i := 2) PySem.F.slot_list_append PySem.F.type_list_append mut_append rfl (by first | exact .inl rfl | exact .inr (.inl rfl) | exact .inr (.inr rfl)) (da_cons de_int da_nil)) dss_nil)) (dss_cons (ds_set (al := []) (i := 6) sc_l_grown.nd rfl (by first | exact .inl rfl | exact .inr rfl) (de_ixA hr.hu1 (dr (de_of (df_lst (da_cons de_str (da_cons de_str (da_cons de_str (da_cons de_str (da_cons de_str (da_cons de_str (da_cons de_str (da_cons de_str (da_cons de_str (da_cons de_str da_nil)))))))))) (len_cons (len_cons (len_cons (len_cons (len_cons (len_cons (len_cons (len_cons (len_cons (len_cons len_nil)))))))))) (szl (by decide))))) (de_bin od_sub (dr (dv 4)) (dr de_int)) (fun _ _ => rfl) (fun _ _ => rfl))) (dss_cons (ds_set (al := []) (i := 7) sc_l_grown.nd rfl (by first | exact .inl rfl | exact .inr rfl) (de_bin od_add (dr (de_tup (da_cons (dv 6) da_nil) (len_cons len_nil) (szl (by decide)))) (dr (de_t1 c1_tuple rfl T.z_tuple rfl (dr (de_cut (dr_var (i := 1) rfl (by first | exact .inl rfl | exact .inr (.inl rfl) | exact .inr (.inr rfl))) (do_some (de_neg (dv 5))) do_none)))))) (dss_cons (ds_set (al := []) (i := 8) sc_l_grown.nd rfl (by first | exact .inl rfl | exact .inr rfl) (de_bin od_add (dr de_int) (dr (de_b1 (c1_maxL rfl) rfl T.z_max rfl (dr (de_cut (dr_var (i := 2) rfl (by first | exact .inl rfl | exact .inr (.inl rfl) | exact .inr (.inr rfl))) (do_some (de_neg (dv 5))) do_none)))))) (dss_cons (ds_setF (al := []) (i := 1) sc_l_grown.nd rfl (by first | exact .inl rfl | exact .inr rfl) (df_cat (dr (de_cut (dr_var (i := 1) rfl (by first | exact .inl rfl | exact .inr (.inl rfl) | exact .inr (.inr rfl))) do_none (do_some (de_neg (dv 5))))) (dr (de_of (df_lst (da_cons (dv 7) da_nil) (len_cons len_nil) (szl (by decide))))))) (dss_cons (ds_setF (al := []) (i := 2) sc_l_grown.nd rfl (by first | exact .inl rfl | exact .inr rfl) (df_cat (dr (de_cut (dr_var (i := 2) rfl (by first | exact .inl rfl | exact .inr (.inl rfl) | exact .inr (.inr rfl))) do_none (do_some (de_neg (dv 5))))) (dr (de_of (df_lst (da_cons (dv 8) da_nil) (len_cons len_nil) (szl (by decide))))))) dss_nil)))))) dss_nil))))) (dss_cons (ds_ret (al := [1]) (de_var (i := 1) rfl (by first | exact .inl rfl | exact .inr (.inl rfl) | exact .inr (.inr rfl)) (by decide))) dss_nil))))
abbrev N_l_lists_by : List Str := ["_law_cell", "_law_term", "_law_wide", "_law_some", "_law_k"]
theorem sc_l_lists_by : FnScope N_l_lists_by ["_law_cell", "_law_term"] (defScope s_l_lists_by) := ⟨rfl, rfl, rfl, by decide +kernel, rfl, by decide +kernel, by decide +kernel⟩
theorem ok_l_lists_by {P : Program} {w : World} {K : PySem.W.Frag} {mg : Str → Option Value} {base : Heap} {f : Addr} {fd : FuncData} (T : Txt K mg w) (F : Fun K "_law_lists_by" "_law_lists_by" s_l_lists_by f fd)  :
    FnOk P w K mg base (L2.CX P w) 1 f fd ["_law_cell", "_law_term"] (spD K mg 2 F_l_lists_by) :=
  fnD (N := N_l_lists_by) (k := 0) (fb := b_l_lists_by) F sc_l_lists_by fun cdv A outer s H G E hr tk hp =>
    by exact (dss_cons (ds_set (al := []) (i := 2) sc_l_lists_by.nd rfl (by first | exact .inl rfl | exact .inr rfl) (de_bin od_add (dr de_int) (dr (de_bin od_mod (dr (de_bin od_div (dr (dv 0)) (dr de_int))) (dr de_int))))) (dss_cons (ds_set (al := []) (i := 3) sc_l_lists_by.nd rfl (by first | exact .inl rfl | exact .inr rfl) (de_tup da_nil len_nil (by decide))) (dss_cons (ds_for (al := []) hp rfl (di_range1 rfl T.z_range (de_bin od_add (dr de_int) (dr (de_bin od_mod (dr (dv 0)) (dr de_int))))) (dg_name (i := 4) sc_l_lists_by.nd rfl (by first | exact .inl rfl | exact .inr rfl)) (fun _ => (dss_cons (ds_set (al := []) (i := 3) sc_l_lists_by.nd rfl (by first | exact .inl rfl | exact .inr rfl) (de_bin od_add (dr (dv 3)) (dr (de_tup (da_cons (de_cut (dr (de_bin od_add (dr (de_tup (da_cons (de_tup (da_cons de_str (da_cons (dv 4) da_nil)) (len_cons (len_cons len_nil)) (szl (by decide))) da_nil) (len_cons len_nil) (szl (by decide)))) (dr (de_bin od_repT (dr (de_tup (da_cons (dv 1) da_nil) (len_cons len_nil) (szl (by decide)))) (dr (dv 2)))))) do_none (do_some (dv 2))) da_nil) (len_cons len_nil) (szl (by decide)))))) dss_nil))) (dss_cons (ds_ret (al := []) (dv 3)) dss_nil))))
abbrev N_l_pairs_by : List Str := ["_law_cell", "_law_wide", "_law_some", "_law_k", "_law_n"]
theorem sc_l_pairs_by : FnScope N_l_pairs_by ["_law_cell"] (defScope s_l_pairs_by) := ⟨rfl, rfl, rfl, by decide +kernel, rfl, by decide +kernel, by decide +kernel⟩
theorem ok_l_pairs_by {P : Program} {w : World} {K : PySem.W.Frag} {mg : Str → Option Value} {base : Heap} {f : Addr} {fd : FuncData} (T : Txt K mg w) (F : Fun K "_law_pairs_by" "_law_pairs_by" s_l_pairs_by f fd)  :
    FnOk P w K mg base (L2.CX P w) 1 f fd ["_law_cell"] (spD K mg 1 F_l_pairs_by) :=
  fnD (N := N_l_pairs_by) (k := 0) (fb := b_l_pairs_by) F sc_l_pairs_by fun cdv A outer s H G E hr tk hp =>
    by exact (dss_cons (ds_set (al := []) (i := 1) sc_l_pairs_by.nd rfl (by first | exact .inl rfl | exact .inr rfl) (de_bin od_add (dr de_int) (dr (de_bin od_mod (dr (de_bin od_div (dr (dv 0)) (dr de_int))) (dr de_int))))) (dss_cons (ds_set (al := []) (i := 2) sc_l_pairs_by.nd rfl (by first | exact .inl rfl | exact .inr rfl) (de_tup da_nil len_nil (by decide))) (dss_cons (ds_for (al := []) hp rfl (di_range1 rfl T.z_range (de_bin od_mod (dr (dv 0)) (dr de_int))) (dg_name (i := 3) sc_l_pairs_by.nd rfl (by first | exact .inl rfl | exact .inr rfl)) (fun _ => (dss_cons (ds_set (al := []) (i := 4) sc_l_pairs_by.nd rfl (by first | exact .inl rfl | exact .inr rfl) (de_bin od_mul (dr (de_bin od_mod (dr (de_bin od_div (dr (dv 0)) (dr de_int))) (dr (de_bin od_add (dr (de_bin od_pow (dr de_int) (dr de_int))) (dr de_int))))) (dr (de_bin od_sub (dr de_int) (dr (de_bin od_mul (dr de_int) (dr (de_bin od_mod (dr (dv 3)) (dr de_int))))))))) (dss_cons (ds_set (al := []) (i := 2) sc_l_pairs_by.nd rfl (by first | exact .inl rfl | exact .inr rfl) (de_bin od_add (dr (dv 2)) (dr (de_tup (da_cons (de_tup (da_cons (de_bin od_div (dr (dv 4)) (dr (de_bin od_add (dr (dv 3)) (dr de_int)))) (da_cons (de_cut (dr (de_tup (da_cons (dv 4) (da_cons (de_bin od_pow (dr de_int) (dr de_int)) (da_cons (de_neg (de_bin od_pow (dr de_int) (dr de_int))) (da_cons (dv 3) da_nil)))) (len_cons (len_cons (len_cons (len_cons len_nil)))) (szl (by decide)))) do_none (do_some (dv 1))) da_nil)) (len_cons (len_cons len_nil)) (szl (by decide))) da_nil) (len_cons len_nil) (szl (by decide)))))) dss_nil)))) (dss_cons (ds_ret (al := []) (dv 2)) dss_nil))))
abbrev N_l_view_grown : List Str := ["_law_cells", "_law_terms", "_law_made", "_law_deep", "_law_k", "_law_cell", "_law_term", "_law_view", "_law_way"]
theorem sc_l_view_grown : FnScope N_l_view_grown ["_law_cells", "_law_terms"] (defScope s_l_view_grown) := ⟨rfl, rfl, rfl, by decide +kernel, rfl, by decide +kernel, by decide +kernel⟩
theorem ok_l_view_grown {P : Program} {w : World} {K : PySem.W.Frag} {mg : Str → Option Value} {base : Heap} {f : Addr} {fd : FuncData} (T : Txt K mg w) (F : Fun K "_law_view_grown" "_law_view_grown" s_l_view_grown f fd) (c_l_lists_by : CallOk P w K mg base 1 "_law_lists_by" ["_law_cell", "_law_term"] F_l_lists_by) (c_l_pairs_by : CallOk P w K mg base 1 "_law_pairs_by" ["_law_cell"] F_l_pairs_by) :
    FnOk P w K mg base (L2.CX P w) 2 f fd ["_law_cells", "_law_terms"] (spD K mg 2 F_l_view_grown) :=
  fnD (N := N_l_view_grown) (k := 1) (fb := b_l_view_grown) F sc_l_view_grown fun cdv A outer s H G E hr tk hp =>
    by have hu := Room.hu hr; exact (dss_cons (ds_setF (al := []) (i := 2) sc_l_view_grown.nd rfl (by first | exact .inl rfl | exact .inr rfl) (df_lst (da_cons (de_tup (da_cons de_str da_nil) (len_cons len_nil) (szl (by decide))) da_nil) (len_cons len_nil) (szl (by decide)))) (dss_cons (ds_set (al := []) (i := 3) sc_l_view_grown.nd rfl (by first | exact .inl rfl | exact .inr rfl) de_int) (dss_cons (ds_for (al := []) hp rfl (di_range1 rfl T.z_range (de_b1 c1_len rfl T.z_len rfl (dr (dv 0)))) (dg_name (i := 4) sc_l_view_grown.nd rfl (by first | exact .inl rfl | exact .inr rfl)) (fun _ => (dss_cons (ds_set (al := []) (i := 5) sc_l_view_grown.nd rfl (by first | exact .inl rfl | exact .inr rfl) (de_bin od_div (dr (de_ixA hr.hu1 (dr (dv 0)) (dv 4) (fun _ _ => rfl) (fun _ _ => rfl))) (dr de_int))) (dss_cons (ds_set (al := []) (i := 6) sc_l_view_grown.nd rfl (by first | exact .inl rfl | exact .inr rfl) (de_ixA hr.hu1 (dr (dv 1)) (de_bin od_mod (dr (dv 4)) (dr (de_b1 c1_len rfl T.z_len rfl (dr (dv 1))))) (fun _ _ => rfl) (fun _ _ => rfl))) (dss_cons (ds_set (al := []) (i := 7) sc_l_view_grown.nd rfl (by first | exact .inl rfl | exact .inr rfl) (de_ix (dr_var (i := 2) rfl (by first | exact .inl rfl | exact .inr (.inl rfl) | exact .inr (.inr rfl))) (dr (de_neg de_int)) (fun _ _ => rfl))) (dss_cons (ds_set (al := []) (i := 8) sc_l_view_grown.nd rfl (by first | exact .inl rfl | exact .inr rfl) (de_bin od_mod (dr (de_ixA hr.hu1 (dr (dv 0)) (dv 4) (fun _ _ => rfl) (fun _ _ => rfl))) (dr de_int))) (dss_cons (ds_if (al := []) (dt_cmp (od_eq hu) (dr (dv 3)) (dr de_int) (nomark _)) (dss_cons (ds_mut (al := []) (i := 2) PySem.F.slot_list_append PySem.F.type_list_append mut_append rfl (by first | exact .inl rfl | exact .inr (.inl rfl) | exact .inr (.inr rfl)) (da_cons (de_tup (da_cons de_str da_nil) (len_cons len_nil) (szl (by decide))) da_nil)) (dss_cons (ds_set (al := []) (i := 3) sc_l_view_grown.nd rfl (by first | exact .inl rfl | exact .inr rfl) de_int) dss_nil)) (dss_cons (ds_if (al := []) (dt_cmp (od_lt hu) (dr (dv 8)) (dr de_int) (nomark _)) (dss_cons (ds_putL (al := []) (i := 2) rfl (by first | exact .inl rfl | exact .inr (.inl rfl) | exact .inr (.inr rfl)) (de_neg de_int) (de_tup (da_cons de_str (da_cons (dv 6) (da_cons (dv 7) da_nil))) (len_cons (len_cons (len_cons len_nil))) (szl (by decide)))) dss_nil) (dss_cons (ds_if (al := []) (dt_cmp (od_eq hu) (dr (dv 8)) (dr de_int) (nomark _)) (dss_cons (ds_putL (al := []) (i := 2) rfl (by first | exact .inl rfl | exact .inr (.inl rfl) | exact .inr (.inr rfl)) (de_neg de_int) (de_tup (da_cons de_str (da_cons (de_callE c_l_lists_by hr rfl tk (da_cons (dv 5) (da_cons (dv 6) da_nil)) (leq_cons (leq_cons leq_nil))) (da_cons (dv 7) da_nil))) (len_cons (len_cons (len_cons len_nil))) (szl (by decide)))) dss_nil) (dss_cons (ds_if (al := []) (dt_cmp (od_eq hu) (dr (dv 8)) (dr de_int) (nomark _)) (dss_cons (ds_putL (al := []) (i := 2) rfl (by first | exact .inl rfl | exact .inr (.inl rfl) | exact .inr (.inr rfl)) (de_neg de_int) (de_tup (da_cons de_str (da_cons (dv 7) da_nil)) (len_cons (len_cons len_nil)) (szl (by decide)))) dss_nil) (dss_cons (ds_if (al := []) (dt_cmp (od_eq hu) (dr (dv 8)) (dr de_int) (nomark _)) (dss_cons (ds_putL (al := []) (i := 2) rfl (by first | exact .inl rfl | exact .inr (.inl rfl) | exact .inr (.inr rfl)) (de_neg de_int) (de_tup (da_cons de_str (da_cons (dv 6) (da_cons (de_bin od_add (dr de_int) (dr (de_bin od_mod (dr (dv 5)) (dr de_int)))) (da_cons (dv 7) da_nil)))) (len_cons (len_cons (len_cons (len_cons len_nil)))) (szl (by decide)))) dss_nil) (dss_cons (ds_if (al := []) (dt_cmp (od_eq hu) (dr (dv 8)) (dr de_int) (nomark _)) (dss_cons (ds_putL (al := []) (i := 2) rfl (by first | exact .inl rfl | exact .inr (.inl rfl) | exact .inr (.inr rfl)) (de_neg de_int) (de_tup (da_cons de_str (da_cons (de_tup (da_cons de_str (da_cons (de_tup (da_cons de_str da_nil) (len_cons len_nil) (szl (by decide))) da_nil)) (len_cons (len_cons len_nil)) (szl (by decide))) (da_cons (dv 7) da_nil))) (len_cons (len_cons (len_cons len_nil))) (szl (by decide)))) (dss_cons (ds_set (al := []) (i := 3) sc_l_view_grown.nd rfl (by first | exact .inl rfl | exact .inr rfl) (de_b2 (c2_max rfl) rfl T.z_max rfl (dr (dv 3)) (dr de_int))) dss_nil)) (dss_cons (ds_putL (al := []) (i := 2) rfl (by first | exact .inl rfl | exact .inr (.inl rfl) | exact .inr (.inr rfl)) (de_neg de_int) (de_tup (da_cons de_str (da_cons (de_callE c_l_pairs_by hr rfl tk (da_cons (dv 5) da_nil) (leq_cons leq_nil)) (da_cons (dv 6) (da_cons (dv 7) da_nil)))) (len_cons (len_cons (len_cons (len_cons len_nil)))) (szl (by decide)))) dss_nil)) dss_nil)) dss_nil)) dss_nil)) dss_nil)) dss_nil)) (dss_cons (ds_if (al := []) (dt_cmp (od_ne hu) (dr (de_ix (dr_var (i := 2) rfl (by first | exact .inl rfl | exact .inr (.inl rfl) | exact .inr (.inr rfl))) (dr (de_neg de_int)) (fun _ _ => rfl))) (dr (de_tup (da_cons de_str da_nil) (len_cons len_nil) (szl (by decide)))) (nomark _)) (dss_cons (ds_set (al := []) (i := 3) sc_l_view_grown.nd rfl (by first | exact .inl rfl | exact .inr rfl) (de_bin od_add (dr (dv 3)) (dr de_int))) dss_nil) dss_nil) dss_nil)))))))) (dss_cons (ds_ret (al := [2]) (de_var (i := 2) rfl (by first | exact .inl rfl | exact .inr (.inl rfl) | exact .inr (.inr rfl)) (by decide))) dss_nil))))
abbrev N_headed : List Str := ["thing"]
theorem sc_headed : FnScope N_headed ["thing"] (defScope s_headed) := ⟨rfl, rfl, rfl, by decide +kernel, rfl, by decide +kernel, by decide +kernel⟩
theorem ok_headed {P : Program} {w : World} {K : PySem.W.Frag} {mg : Str → Option Value} {base : Heap} {f : Addr} {fd : FuncData} (T : Txt K mg w) (F : Fun K "headed" "headed" s_headed f fd)  :
    FnOk P w K mg base (L2.CX P w) 1 f fd ["thing"] (spD K mg 1 F_headed) :=
  fnD (N := N_headed) (k := 0) (fb := b_headed) F sc_headed fun cdv A outer s H G E hr tk hp =>
    by have hu := Room.hu hr; exact (dss_cons (ds_ret (al := []) (de_and (de_isi is_tup rfl T.z_isinstance rfl (dr (dv 0)) rfl T.z_tuple rfl) (de_and (de_cmp (od_gt hu) (dr (de_b1 c1_len rfl T.z_len rfl (dr (dv 0)))) (dr de_int) (nomark _)) (de_one (de_isi is_str rfl T.z_isinstance rfl (dr (de_ix (dr (dv 0)) (dr de_int) (fun _ _ => rfl))) rfl T.z_str rfl))))) dss_nil)
abbrev N_is_whole : List Str := ["thing"]
theorem sc_is_whole : FnScope N_is_whole ["thing"] (defScope s_is_whole) := ⟨rfl, rfl, rfl, by decide +kernel, rfl, by decide +kernel, by decide +kernel⟩
theorem ok_is_whole {P : Program} {w : World} {K : PySem.W.Frag} {mg : Str → Option Value} {base : Heap} {f : Addr} {fd : FuncData} (T : Txt K mg w) (F : Fun K "is_whole" "is_whole" s_is_whole f fd)  :
    FnOk P w K mg base (L2.CX P w) 1 f fd ["thing"] (spD K mg 1 F_is_whole) :=
  fnD (N := N_is_whole) (k := 0) (fb := b_is_whole) F sc_is_whole fun cdv A outer s H G E hr tk hp =>
    by exact (dss_cons (ds_ret (al := []) (de_and (de_isi is_int rfl T.z_isinstance rfl (dr (dv 0)) rfl T.z_int rfl) (de_one (de_not (de_isi is_bool rfl T.z_isinstance rfl (dr (dv 0)) rfl T.z_bool rfl))))) dss_nil)
abbrev N_lies_between : List Str := ["thing", "low", "high"]
theorem sc_lies_between : FnScope N_lies_between ["thing", "low", "high"] (defScope s_lies_between) := ⟨rfl, rfl, rfl, by decide +kernel, rfl, by decide +kernel, by decide +kernel⟩
theorem ok_lies_between {P : Program} {w : World} {K : PySem.W.Frag} {mg : Str → Option Value} {base : Heap} {f : Addr} {fd : FuncData} (T : Txt K mg w) (F : Fun K "lies_between" "lies_between" s_lies_between f fd) (c_is_whole : CallOk P w K mg base 1 "is_whole" ["thing"] F_is_whole) :
    FnOk P w K mg base (L2.CX P w) 2 f fd ["thing", "low", "high"] (spD K mg 3 F_lies_between) :=
  fnD (N := N_lies_between) (k := 1) (fb := b_lies_between) F sc_lies_between fun cdv A outer s H G E hr tk hp =>
    by have hu := Room.hu hr; exact (dss_cons (ds_ret (al := []) (de_and (de_callE c_is_whole hr rfl tk (da_cons (dv 0) da_nil) (leq_cons leq_nil)) (de_one (de_chain (od_le hu) (od_le hu) (dr (dv 1)) (dr (dv 0)) (dr (dv 2)))))) dss_nil)
abbrev N_is_number : List Str := ["thing"]
theorem sc_is_number : FnScope N_is_number ["thing"] (defScope s_is_number) := ⟨rfl, rfl, rfl, by decide +kernel, rfl, by decide +kernel, by decide +kernel⟩
theorem ok_is_number {P : Program} {w : World} {K : PySem.W.Frag} {mg : Str → Option Value} {base : Heap} {f : Addr} {fd : FuncData} (T : Txt K mg w) (F : Fun K "is_number" "is_number" s_is_number f fd) (c_lies_between : CallOk P w K mg base 2 "lies_between" ["thing", "low", "high"] F_lies_between) :
    FnOk P w K mg base (L2.CX P w) 3 f fd ["thing"] (spD K mg 1 F_is_number) :=
  fnD (N := N_is_number) (k := 2) (fb := b_is_number) F sc_is_number fun cdv A outer s H G E hr tk hp =>
    by exact (dss_cons (ds_ret (al := []) (de_callE c_lies_between hr rfl tk (da_cons (dv 0) (da_cons (de_neg (de_con T.c_GREATEST rfl)) (da_cons (de_con T.c_GREATEST rfl) da_nil))) (leq_cons (leq_cons (leq_cons leq_nil))))) dss_nil)
abbrev N_is_name : List Str := ["thing", "sign"]
theorem sc_is_name : FnScope N_is_name ["thing"] (defScope s_is_name) := ⟨rfl, rfl, rfl, by decide +kernel, rfl, by decide +kernel, by decide +kernel⟩
theorem ok_is_name {P : Program} {w : World} {K : PySem.W.Frag} {mg : Str → Option Value} {base : Heap} {f : Addr} {fd : FuncData} (T : Txt K mg w) (F : Fun K "is_name" "is_name" s_is_name f fd)  :
    FnOk P w K mg base (L2.CX P w) 1 f fd ["thing"] (spD K mg 1 F_is_name) :=
  fnD (N := N_is_name) (k := 0) (fb := b_is_name) F sc_is_name fun cdv A outer s H G E hr tk hp =>
    by have hu := Room.hu hr; exact (dss_cons (ds_if (al := []) (dt_w (dw_or (dt_not (dt_truth (dr (de_isi is_str rfl T.z_isinstance rfl (dr (dv 0)) rfl T.z_str rfl)) (fun _ => rfl))) (dw_or (dt_cmp (od_lt hu) (dr (de_b1 c1_len rfl T.z_len rfl (dr (dv 0)))) (dr de_int) (nomark _)) (dw_or1 (dt_cmp (od_gt hu) (dr (de_b1 c1_len rfl T.z_len rfl (dr (dv 0)))) (dr de_int) (nomark _)))))) (dss_cons (ds_ret (al := []) de_bl) dss_nil) dss_nil) (dss_cons (ds_for (al := []) hp rfl (di_any (dv 0)) (dg_name (i := 1) sc_is_name.nd rfl (by first | exact .inl rfl | exact .inr rfl)) (fun _ => (dss_cons (ds_if (al := []) (dt_notInA hr.hu65 (dv 1) (dr (de_con T.c_LETTERS rfl))) (dss_cons (ds_ret (al := []) de_bl) dss_nil) dss_nil) dss_nil))) (dss_cons (ds_ret (al := []) de_bl) dss_nil)))
abbrev N_term_fits : List Str := ["thing", "deep", "head", "part"]
theorem sc_term_fits : FnScope N_term_fits ["thing", "deep"] (defScope s_term_fits) := ⟨rfl, rfl, rfl, by decide +kernel, rfl, by decide +kernel, by decide +kernel⟩
theorem ok_term_fits {P : Program} {w : World} {K : PySem.W.Frag} {mg : Str → Option Value} {base : Heap} {f : Addr} {fd : FuncData} {k : Nat} {G : List D → Res D} (T : Txt K mg w) (F : Fun K "term_fits" "term_fits" s_term_fits f fd) (c_headed : CallOk P w K mg base k "headed" ["thing"] F_headed) (c_is_number : CallOk P w K mg base k "is_number" ["thing"] F_is_number) (c_lies_between : CallOk P w K mg base k "lies_between" ["thing", "low", "high"] F_lies_between) (c_is_name : CallOk P w K mg base k "is_name" ["thing"] F_is_name) (c_term_fits : CallOk P w K mg base k "term_fits" ["thing", "deep"] G) :
    FnOk P w K mg base (L2.CX P w) (k + 1) f fd ["thing", "deep"] (spD K mg 2 (runDef 2 4 (b_term_fits G))) :=
  fnD (N := N_term_fits) (k := k) (fb := b_term_fits G) F sc_term_fits fun cdv A outer s H _ E hr tk hp =>
    by have hu := Room.hu hr; exact (dss_cons (ds_if (al := []) (dt_w (dw_or (dt_cmp (od_eq hu) (dr (dv 1)) (dr de_int) (nomark _)) (dw_or (dt_not (dt_truth (dr (de_callE c_headed hr rfl tk (da_cons (dv 0) da_nil) (leq_cons leq_nil))) (fun _ => rfl))) (dw_or1 (dt_cmp (od_lt hu) (dr (de_b1 c1_len rfl T.z_len rfl (dr (dv 0)))) (dr de_int) (nomark _)))))) (dss_cons (ds_ret (al := []) de_bl) dss_nil) dss_nil) (dss_cons (ds_set (al := []) (i := 2) sc_term_fits.nd rfl (by first | exact .inl rfl | exact .inr rfl) (de_ix (dr (dv 0)) (dr de_int) (fun _ _ => rfl))) (dss_cons (ds_if (al := []) (dt_cmp (od_eq hu) (dr (dv 2)) (dr de_str) (nomark _)) (dss_cons (ds_ret (al := []) (de_and (de_cmp (od_eq hu) (dr (de_b1 c1_len rfl T.z_len rfl (dr (dv 0)))) (dr de_int) (nomark _)) (de_one (de_callE c_is_number hr rfl tk (da_cons (de_ix (dr (dv 0)) (dr de_int) (fun _ _ => rfl)) da_nil) (leq_cons leq_nil))))) dss_nil) dss_nil) (dss_cons (ds_if (al := []) (dt_cmp (od_eq hu) (dr (dv 2)) (dr de_str) (nomark _)) (dss_cons (ds_ret (al := []) (de_and (de_cmp (od_eq hu) (dr (de_b1 c1_len rfl T.z_len rfl (dr (dv 0)))) (dr de_int) (nomark _)) (de_one (de_callE c_lies_between hr rfl tk (da_cons (de_ix (dr (dv 0)) (dr de_int) (fun _ _ => rfl)) (da_cons de_int (da_cons de_int da_nil))) (leq_cons (leq_cons (leq_cons leq_nil))))))) dss_nil) dss_nil) (dss_cons (ds_if (al := []) (dt_cmp (od_eq hu) (dr (dv 2)) (dr de_str) (nomark _)) (dss_cons (ds_ret (al := []) (de_and (de_cmp (od_eq hu) (dr (de_b1 c1_len rfl T.z_len rfl (dr (dv 0)))) (dr de_int) (nomark _)) (de_one (de_callE c_is_name hr rfl tk (da_cons (de_ix (dr (dv 0)) (dr de_int) (fun _ _ => rfl)) da_nil) (leq_cons leq_nil))))) dss_nil) dss_nil) (dss_cons (ds_if (al := []) (dt_w (dw_or (dt_notInC T.d_PARTS rfl (dr (dv 2))) (dw_or1 (dt_cmp (od_ne hu) (dr (de_b1 c1_len rfl T.z_len rfl (dr (dv 0)))) (dr (de_bin od_add (dr de_int) (dr (de_atC T.d_PARTS rfl (dr (dv 2)))))) (nomark _))))) (dss_cons (ds_ret (al := []) de_bl) dss_nil) dss_nil) (dss_cons (ds_ret (al := []) (de_b1 (c1_all rfl) rfl T.z_all rfl (dr (de_of (df_comp (own := [("part", 3)]) rfl sc_term_fits.nd (dir_of (di_seq (de_cut (dr (dv 0)) (do_some de_int) do_none))) (blkOk_by (N := N_term_fits) (sc := defScope s_term_fits) (by decide +kernel)) (fun _ _ _ _ _ => (dg_name (i := 3) sc_term_fits.nd rfl (by first | exact .inl rfl | exact .inr rfl))) (fun _ _ _ _ _ => dts_nil) (fun _ _ _ _ _ => (de_callE c_term_fits hr rfl takes0 (da_cons (dv 3) (da_cons (de_bin od_sub (dr (dv 1)) (dr de_int)) da_nil)) (leq_cons (leq_cons leq_nil)))) (by decide)))))) dss_nil)))))))
abbrev N_is_term : List Str := ["thing"]
theorem sc_is_term : FnScope N_is_term ["thing"] (defScope s_is_term) := ⟨rfl, rfl, rfl, by decide +kernel, rfl, by decide +kernel, by decide +kernel⟩
theorem ok_is_term {P : Program} {w : World} {K : PySem.W.Frag} {mg : Str → Option Value} {base : Heap} {f : Addr} {fd : FuncData} (T : Txt K mg w) (F : Fun K "is_term" "is_term" s_is_term f fd) (c_term_fits : CallOk P w K mg base 17 "term_fits" ["thing", "deep"] F_term_fits) :
    FnOk P w K mg base (L2.CX P w) 18 f fd ["thing"] (spD K mg 1 F_is_term) :=
  fnD (N := N_is_term) (k := 17) (fb := b_is_term) F sc_is_term fun cdv A outer s H G E hr tk hp =>
    by exact (dss_cons (ds_ret (al := []) (de_callE c_term_fits hr rfl tk (da_cons (dv 0) (da_cons de_int da_nil)) (leq_cons (leq_cons leq_nil)))) dss_nil)
abbrev N_are_lists : List Str := ["thing", "some", "term"]
theorem sc_are_lists : FnScope N_are_lists ["thing"] (defScope s_are_lists) := ⟨rfl, rfl, rfl, by decide +kernel, rfl, by decide +kernel, by decide +kernel⟩
theorem ok_are_lists {P : Program} {w : World} {K : PySem.W.Frag} {mg : Str → Option Value} {base : Heap} {f : Addr} {fd : FuncData} (T : Txt K mg w) (F : Fun K "are_lists" "are_lists" s_are_lists f fd) (c_is_term : CallOk P w K mg base 18 "is_term" ["thing"] F_is_term) :
    FnOk P w K mg base (L2.CX P w) 19 f fd ["thing"] (spD K mg 1 F_are_lists) :=
  fnD (N := N_are_lists) (k := 18) (fb := b_are_lists) F sc_are_lists fun cdv A outer s H G E hr tk hp =>
    by have hu := Room.hu hr; exact (dss_cons (ds_if (al := []) (dt_w (dw_or (dt_not (dt_truth (dr (de_isi is_tup rfl T.z_isinstance rfl (dr (dv 0)) rfl T.z_tuple rfl)) (fun _ => rfl))) (dw_or (dt_cmp (od_lt hu) (dr (de_b1 c1_len rfl T.z_len rfl (dr (dv 0)))) (dr de_int) (nomark _)) (dw_or1 (dt_cmp (od_gt hu) (dr (de_b1 c1_len rfl T.z_len rfl (dr (dv 0)))) (dr de_int) (nomark _)))))) (dss_cons (ds_ret (al := []) de_bl) dss_nil) dss_nil) (dss_cons (ds_for (al := []) hp rfl (di_seq (dv 0)) (dg_name (i := 1) sc_are_lists.nd rfl (by first | exact .inl rfl | exact .inr rfl)) (fun _ => (dss_cons (ds_if (al := []) (dt_w (dw_or (dt_not (dt_truth (dr (de_isi is_tup rfl T.z_isinstance rfl (dr (dv 1)) rfl T.z_tuple rfl)) (fun _ => rfl))) (dw_or (dt_cmp (od_lt hu) (dr (de_b1 c1_len rfl T.z_len rfl (dr (dv 1)))) (dr de_int) (nomark _)) (dw_or (dt_cmp (od_gt hu) (dr (de_b1 c1_len rfl T.z_len rfl (dr (dv 1)))) (dr de_int) (nomark _)) (dw_or1 (dt_cmp (od_ne hu) (dr (de_b1 c1_len rfl T.z_len rfl (dr (dv 1)))) (dr (de_b1 c1_len rfl T.z_len rfl (dr (de_ix (dr (dv 0)) (dr de_int) (fun _ _ => rfl))))) (nomark _))))))) (dss_cons (ds_ret (al := []) de_bl) dss_nil) dss_nil) (dss_cons (ds_if (al := []) (dt_not (dt_truth (dr (de_b1 (c1_all rfl) rfl T.z_all rfl (dr (de_of (df_comp (own := [("term", 2)]) rfl sc_are_lists.nd (dir_of (di_seq (dv 1))) (blkOk_by (N := N_are_lists) (sc := defScope s_are_lists) (by decide +kernel)) (fun _ _ _ _ _ => (dg_name (i := 2) sc_are_lists.nd rfl (by first | exact .inl rfl | exact .inr rfl))) (fun _ _ _ _ _ => dts_nil) (fun _ _ _ _ _ => (de_callE c_is_term hr rfl takes0 (da_cons (dv 2) da_nil) (leq_cons leq_nil))) (by decide)))))) (fun _ => rfl))) (dss_cons (ds_ret (al := []) de_bl) dss_nil) dss_nil) dss_nil)))) (dss_cons (ds_ret (al := []) de_bl) dss_nil)))
abbrev N_is_pair : List Str := ["thing", "row", "n"]
theorem sc_is_pair : FnScope N_is_pair ["thing"] (defScope s_is_pair) := ⟨rfl, rfl, rfl, by decide +kernel, rfl, by decide +kernel, by decide +kernel⟩
theorem ok_is_pair {P : Program} {w : World} {K : PySem.W.Frag} {mg : Str → Option Value} {base : Heap} {f : Addr} {fd : FuncData} (T : Txt K mg w) (F : Fun K "is_pair" "is_pair" s_is_pair f fd) (c_is_number : CallOk P w K mg base 3 "is_number" ["thing"] F_is_number) :
    FnOk P w K mg base (L2.CX P w) 4 f fd ["thing"] (spD K mg 1 F_is_pair) :=
  fnD (N := N_is_pair) (k := 3) (fb := b_is_pair) F sc_is_pair fun cdv A outer s H G E hr tk hp =>
    by have hu := Room.hu hr; exact (dss_cons (ds_if (al := []) (dt_w (dw_or (dt_not (dt_truth (dr (de_isi is_tup rfl T.z_isinstance rfl (dr (dv 0)) rfl T.z_tuple rfl)) (fun _ => rfl))) (dw_or (dt_cmp (od_ne hu) (dr (de_b1 c1_len rfl T.z_len rfl (dr (dv 0)))) (dr de_int) (nomark _)) (dw_or1 (dt_not (dt_truth (dr (de_callE c_is_number hr rfl tk (da_cons (de_ix (dr (dv 0)) (dr de_int) (fun _ _ => rfl)) da_nil) (leq_cons leq_nil))) (fun _ => rfl))))))) (dss_cons (ds_ret (al := []) de_bl) dss_nil) dss_nil) (dss_cons (ds_set (al := []) (i := 1) sc_is_pair.nd rfl (by first | exact .inl rfl | exact .inr rfl) (de_ix (dr (dv 0)) (dr de_int) (fun _ _ => rfl))) (dss_cons (ds_ret (al := []) (de_and (de_isi is_tup rfl T.z_isinstance rfl (dr (dv 1)) rfl T.z_tuple rfl) (de_and (de_chain (od_le hu) (od_le hu) (dr de_int) (dr (de_b1 c1_len rfl T.z_len rfl (dr (dv 1)))) (dr de_int)) (de_one (de_b1 (c1_all rfl) rfl T.z_all rfl (dr (de_of (df_comp (own := [("n", 2)]) rfl sc_is_pair.nd (dir_of (di_seq (dv 1))) (blkOk_by (N := N_is_pair) (sc := defScope s_is_pair) (by decide +kernel)) (fun _ _ _ _ _ => (dg_name (i := 2) sc_is_pair.nd rfl (by first | exact .inl rfl | exact .inr rfl))) (fun _ _ _ _ _ => dts_nil) (fun _ _ _ _ _ => (de_callE c_is_number hr rfl takes0 (da_cons (dv 2) da_nil) (leq_cons leq_nil))) (by decide))))))))) dss_nil)))
abbrev N_are_pairs : List Str := ["thing", "pair"]
theorem sc_are_pairs : FnScope N_are_pairs ["thing"] (defScope s_are_pairs) := ⟨rfl, rfl, rfl, by decide +kernel, rfl, by decide +kernel, by decide +kernel⟩
theorem ok_are_pairs {P : Program} {w : World} {K : PySem.W.Frag} {mg : Str → Option Value} {base : Heap} {f : Addr} {fd : FuncData} (T : Txt K mg w) (F : Fun K "are_pairs" "are_pairs" s_are_pairs f fd) (c_is_pair : CallOk P w K mg base 4 "is_pair" ["thing"] F_is_pair) :
    FnOk P w K mg base (L2.CX P w) 5 f fd ["thing"] (spD K mg 1 F_are_pairs) :=
  fnD (N := N_are_pairs) (k := 4) (fb := b_are_pairs) F sc_are_pairs fun cdv A outer s H G E hr tk hp =>
    by have hu := Room.hu hr; exact (dss_cons (ds_if (al := []) (dt_w (dw_or (dt_not (dt_truth (dr (de_isi is_tup rfl T.z_isinstance rfl (dr (dv 0)) rfl T.z_tuple rfl)) (fun _ => rfl))) (dw_or1 (dt_cmp (od_gt hu) (dr (de_b1 c1_len rfl T.z_len rfl (dr (dv 0)))) (dr de_int) (nomark _))))) (dss_cons (ds_ret (al := []) de_bl) dss_nil) dss_nil) (dss_cons (ds_for (al := []) hp rfl (di_seq (dv 0)) (dg_name (i := 1) sc_are_pairs.nd rfl (by first | exact .inl rfl | exact .inr rfl)) (fun _ => (dss_cons (ds_if (al := []) (dt_w (dw_or (dt_not (dt_truth (dr (de_callE c_is_pair hr rfl tk (da_cons (dv 1) da_nil) (leq_cons leq_nil))) (fun _ => rfl))) (dw_or1 (dt_cmp (od_ne hu) (dr (de_b1 c1_len rfl T.z_len rfl (dr (de_ix (dr (dv 1)) (dr de_int) (fun _ _ => rfl))))) (dr (de_b1 c1_len rfl T.z_len rfl (dr (de_ix (dr (de_ix (dr (dv 0)) (dr de_int) (fun _ _ => rfl))) (dr de_int) (fun _ _ => rfl))))) (nomark _))))) (dss_cons (ds_ret (al := []) de_bl) dss_nil) dss_nil) dss_nil))) (dss_cons (ds_ret (al := []) de_bl) dss_nil)))
abbrev N_view_fits : List Str := ["thing", "deep", "head", "good"]
theorem sc_view_fits : FnScope N_view_fits ["thing", "deep"] (defScope s_view_fits) := ⟨rfl, rfl, rfl, by decide +kernel, rfl, by decide +kernel, by decide +kernel⟩
theorem ok_view_fits {P : Program} {w : World} {K : PySem.W.Frag} {mg : Str → Option Value} {base : Heap} {f : Addr} {fd : FuncData} {k : Nat} {G : List D → Res D} (T : Txt K mg w) (F : Fun K "view_fits" "view_fits" s_view_fits f fd) (c_headed : CallOk P w K mg base k "headed" ["thing"] F_headed) (c_is_term : CallOk P w K mg base k "is_term" ["thing"] F_is_term) (c_view_fits : CallOk P w K mg base k "view_fits" ["thing", "deep"] G) (c_are_lists : CallOk P w K mg base k "are_lists" ["thing"] F_are_lists) (c_lies_between : CallOk P w K mg base k "lies_between" ["thing", "low", "high"] F_lies_between) (c_are_pairs : CallOk P w K mg base k "are_pairs" ["thing"] F_are_pairs) :
    FnOk P w K mg base (L2.CX P w) (k + 1) f fd ["thing", "deep"] (spD K mg 2 (runDef 2 4 (b_view_fits G))) :=
  fnD (N := N_view_fits) (k := k) (fb := b_view_fits G) F sc_view_fits fun cdv A outer s H _ E hr tk hp =>
    by have hu := Room.hu hr; exact (dss_cons (ds_if (al := []) (dt_w (dw_or (dt_cmp (od_eq hu) (dr (dv 1)) (dr de_int) (nomark _)) (dw_or1 (dt_not (dt_truth (dr (de_callE c_headed hr rfl tk (da_cons (dv 0) da_nil) (leq_cons leq_nil))) (fun _ => rfl)))))) (dss_cons (ds_ret (al := []) de_bl) dss_nil) dss_nil) (dss_cons (ds_set (al := []) (i := 2) sc_view_fits.nd rfl (by first | exact .inl rfl | exact .inr rfl) (de_ix (dr (dv 0)) (dr de_int) (fun _ _ => rfl))) (dss_cons (ds_if (al := []) (dt_cmp (od_eq hu) (dr (dv 2)) (dr de_str) (nomark _)) (dss_cons (ds_ret (al := []) (de_cmp (od_eq hu) (dr (de_b1 c1_len rfl T.z_len rfl (dr (dv 0)))) (dr de_int) (nomark _))) dss_nil) dss_nil) (dss_cons (ds_if (al := []) (dt_cmp (od_eq hu) (dr (dv 2)) (dr de_str) (nomark _)) (dss_cons (ds_ret (al := []) (de_and (de_cmp (od_eq hu) (dr (de_b1 c1_len rfl T.z_len rfl (dr (dv 0)))) (dr de_int) (nomark _)) (de_and (de_callE c_is_term hr rfl tk (da_cons (de_ix (dr (dv 0)) (dr de_int) (fun _ _ => rfl)) da_nil) (leq_cons leq_nil)) (de_one (de_callE c_view_fits hr rfl tk (da_cons (de_ix (dr (dv 0)) (dr de_int) (fun _ _ => rfl)) (da_cons (de_bin od_sub (dr (dv 1)) (dr de_int)) da_nil)) (leq_cons (leq_cons leq_nil))))))) dss_nil) dss_nil) (dss_cons (ds_if (al := []) (dt_cmp (od_eq hu) (dr (dv 2)) (dr de_str) (nomark _)) (dss_cons (ds_ret (al := []) (de_and (de_cmp (od_eq hu) (dr (de_b1 c1_len rfl T.z_len rfl (dr (dv 0)))) (dr de_int) (nomark _)) (de_and (de_callE c_are_lists hr rfl tk (da_cons (de_ix (dr (dv 0)) (dr de_int) (fun _ _ => rfl)) da_nil) (leq_cons leq_nil)) (de_one (de_callE c_view_fits hr rfl tk (da_cons (de_ix (dr (dv 0)) (dr de_int) (fun _ _ => rfl)) (da_cons (de_bin od_sub (dr (dv 1)) (dr de_int)) da_nil)) (leq_cons (leq_cons leq_nil))))))) dss_nil) dss_nil) (dss_cons (ds_if (al := []) (dt_cmp (od_eq hu) (dr (dv 2)) (dr de_str) (nomark _)) (dss_cons (ds_ret (al := []) (de_and (de_cmp (od_eq hu) (dr (de_b1 c1_len rfl T.z_len rfl (dr (dv 0)))) (dr de_int) (nomark _)) (de_one (de_callE c_view_fits hr rfl tk (da_cons (de_ix (dr (dv 0)) (dr de_int) (fun _ _ => rfl)) (da_cons (de_bin od_sub (dr (dv 1)) (dr de_int)) da_nil)) (leq_cons (leq_cons leq_nil)))))) dss_nil) dss_nil) (dss_cons (ds_if (al := []) (dt_cmp (od_eq hu) (dr (dv 2)) (dr de_str) (nomark _)) (dss_cons (ds_set (al := []) (i := 3) sc_view_fits.nd rfl (by first | exact .inl rfl | exact .inr rfl) (de_and (de_cmp (od_eq hu) (dr (de_b1 c1_len rfl T.z_len rfl (dr (dv 0)))) (dr de_int) (nomark _)) (de_and (de_callE c_is_term hr rfl tk (da_cons (de_ix (dr (dv 0)) (dr de_int) (fun _ _ => rfl)) da_nil) (leq_cons leq_nil)) (de_one (de_callE c_lies_between hr rfl tk (da_cons (de_ix (dr (dv 0)) (dr de_int) (fun _ _ => rfl)) (da_cons de_int (da_cons de_int da_nil))) (leq_cons (leq_cons (leq_cons leq_nil)))))))) (dss_cons (ds_ret (al := []) (de_and (dv 3) (de_one (de_callE c_view_fits hr rfl tk (da_cons (de_ix (dr (dv 0)) (dr de_int) (fun _ _ => rfl)) (da_cons (de_bin od_sub (dr (dv 1)) (dr de_int)) da_nil)) (leq_cons (leq_cons leq_nil)))))) dss_nil)) dss_nil) (dss_cons (ds_if (al := []) (dt_cmp (od_eq hu) (dr (dv 2)) (dr de_str) (nomark _)) (dss_cons (ds_ret (al := []) (de_and (de_cmp (od_eq hu) (dr (de_b1 c1_len rfl T.z_len rfl (dr (dv 0)))) (dr de_int) (nomark _)) (de_and (de_callE c_view_fits hr rfl tk (da_cons (de_ix (dr (dv 0)) (dr de_int) (fun _ _ => rfl)) (da_cons (de_bin od_sub (dr (dv 1)) (dr de_int)) da_nil)) (leq_cons (leq_cons leq_nil))) (de_one (de_callE c_view_fits hr rfl tk (da_cons (de_ix (dr (dv 0)) (dr de_int) (fun _ _ => rfl)) (da_cons (de_bin od_sub (dr (dv 1)) (dr de_int)) da_nil)) (leq_cons (leq_cons leq_nil))))))) dss_nil) dss_nil) (dss_cons (ds_if (al := []) (dt_w (dw_or (dt_cmp (od_ne hu) (dr (dv 2)) (dr de_str) (nomark _)) (dw_or1 (dt_cmp (od_ne hu) (dr (de_b1 c1_len rfl T.z_len rfl (dr (dv 0)))) (dr de_int) (nomark _))))) (dss_cons (ds_ret (al := []) de_bl) dss_nil) dss_nil) (dss_cons (ds_ret (al := []) (de_and (de_callE c_are_pairs hr rfl tk (da_cons (de_ix (dr (dv 0)) (dr de_int) (fun _ _ => rfl)) da_nil) (leq_cons leq_nil)) (de_and (de_callE c_is_term hr rfl tk (da_cons (de_ix (dr (dv 0)) (dr de_int) (fun _ _ => rfl)) da_nil) (leq_cons leq_nil)) (de_one (de_callE c_view_fits hr rfl tk (da_cons (de_ix (dr (dv 0)) (dr de_int) (fun _ _ => rfl)) (da_cons (de_bin od_sub (dr (dv 1)) (dr de_int)) da_nil)) (leq_cons (leq_cons leq_nil))))))) dss_nil))))))))))
abbrev N_is_view : List Str := ["thing"]
theorem sc_is_view : FnScope N_is_view ["thing"] (defScope s_is_view) := ⟨rfl, rfl, rfl, by decide +kernel, rfl, by decide +kernel, by decide +kernel⟩
theorem ok_is_view {P : Program} {w : World} {K : PySem.W.Frag} {mg : Str → Option Value} {base : Heap} {f : Addr} {fd : FuncData} (T : Txt K mg w) (F : Fun K "is_view" "is_view" s_is_view f fd) (c_view_fits : CallOk P w K mg base 31 "view_fits" ["thing", "deep"] F_view_fits) :
    FnOk P w K mg base (L2.CX P w) 32 f fd ["thing"] (spD K mg 1 F_is_view) :=
  fnD (N := N_is_view) (k := 31) (fb := b_is_view) F sc_is_view fun cdv A outer s H G E hr tk hp =>
    by exact (dss_cons (ds_ret (al := []) (de_callE c_view_fits hr rfl tk (da_cons (dv 0) (da_cons de_int da_nil)) (leq_cons (leq_cons leq_nil)))) dss_nil)
abbrev N_l_no_term : List Str := ["_law_cell", "_law_term", "_law_deep", "_law_k", "_law_some"]
theorem sc_l_no_term : FnScope N_l_no_term ["_law_cell", "_law_term"] (defScope s_l_no_term) := ⟨rfl, rfl, rfl, by decide +kernel, rfl, by decide +kernel, by decide +kernel⟩
theorem ok_l_no_term {P : Program} {w : World} {K : PySem.W.Frag} {mg : Str → Option Value} {base : Heap} {f : Addr} {fd : FuncData} (T : Txt K mg w) (F : Fun K "_law_no_term" "_law_no_term" s_l_no_term f fd)  :
    FnOk P w K mg base (L2.CX P w) 1 f fd ["_law_cell", "_law_term"] (spD K mg 2 F_l_no_term) :=
  fnD (N := N_l_no_term) (k := 0) (fb := b_l_no_term) F sc_l_no_term fun cdv A outer s H G E hr tk hp =>
    by exact (dss_cons (ds_set (al := []) (i := 2) sc_l_no_term.nd rfl (by first | exact .inl rfl | exact .inr rfl) (de_tup (da_cons de_str (da_cons de_int da_nil)) (len_cons (len_cons len_nil)) (szl (by decide)))) (dss_cons (ds_for (al := []) hp rfl (di_range1 rfl T.z_range de_int) (dg_name (i := 3) sc_l_no_term.nd rfl (by first | exact .inl rfl | exact .inr rfl)) (fun _ => (dss_cons (ds_set (al := []) (i := 2) sc_l_no_term.nd rfl (by first | exact .inl rfl | exact .inr rfl) (de_tup (da_cons de_str (da_cons (dv 2) da_nil)) (len_cons (len_cons len_nil)) (szl (by decide)))) dss_nil))) (dss_cons (ds_set (al := []) (i := 4) sc_l_no_term.nd rfl (by first | exact .inl rfl | exact .inr rfl) (de_of (df_lst (da_cons (dv 2) (da_cons (de_tup (da_cons de_str da_nil) (len_cons len_nil) (szl (by decide))) (da_cons (de_tup (da_cons de_str (da_cons (de_bin od_add (dr (de_bin od_pow (dr de_int) (dr de_int))) (dr de_int)) da_nil)) (len_cons (len_cons len_nil)) (szl (by decide))) (da_cons (de_tup (da_cons de_str (da_cons de_str da_nil)) (len_cons (len_cons len_nil)) (szl (by decide))) (da_cons (de_tup (da_cons de_str (da_cons de_int da_nil)) (len_cons (len_cons len_nil)) (szl (by decide))) (da_cons (de_tup (da_cons de_str (da_cons (de_neg de_int) da_nil)) (len_cons (len_cons len_nil)) (szl (by decide))) (da_cons (de_tup (da_cons de_str (da_cons de_str da_nil)) (len_cons (len_cons len_nil)) (szl (by decide))) da_nil))))))) (len_cons (len_cons (len_cons (len_cons (len_cons (len_cons (len_cons len_nil))))))) (szl (by decide))))) (dss_cons (ds_set (al := []) (i := 4) sc_l_no_term.nd rfl (by first | exact .inl rfl | exact .inr rfl) (de_bin od_add (dr (dv 4)) (dr (de_of (df_lst (da_cons (de_tup (da_cons de_str (da_cons de_str da_nil)) (len_cons (len_cons len_nil)) (szl (by decide))) (da_cons (de_tup (da_cons de_str (da_cons (dv 1) da_nil)) (len_cons (len_cons len_nil)) (szl (by decide))) (da_cons (de_tup (da_cons de_str (da_cons (dv 1) (da_cons (dv 1) da_nil))) (len_cons (len_cons (len_cons len_nil))) (szl (by decide))) (da_cons de_str (da_cons de_int (da_cons (de_tup da_nil len_nil (by decide)) (da_cons (de_tup (da_cons de_str da_nil) (len_cons len_nil) (szl (by decide))) da_nil))))))) (len_cons (len_cons (len_cons (len_cons (len_cons (len_cons (len_cons len_nil))))))) (szl (by decide))))))) (dss_cons (ds_ret (al := []) (de_ixA hr.hu1 (dr (dv 4)) (de_bin od_mod (dr (dv 0)) (dr de_int)) (fun _ _ => rfl) (fun _ _ => rfl))) dss_nil)))))
abbrev N_l_bad_view : List Str := ["_law_cell", "_law_term", "_law_view", "_law_pair", "_law_bad", "_law_some"]
theorem sc_l_bad_view : FnScope N_l_bad_view ["_law_cell", "_law_term", "_law_view"] (defScope s_l_bad_view) := ⟨rfl, rfl, rfl, by decide +kernel, rfl, by decide +kernel, by decide +kernel⟩
theorem ok_l_bad_view {P : Program} {w : World} {K : PySem.W.Frag} {mg : Str → Option Value} {base : Heap} {f : Addr} {fd : FuncData} (T : Txt K mg w) (F : Fun K "_law_bad_view" "_law_bad_view" s_l_bad_view f fd) (c_l_no_term : CallOk P w K mg base 1 "_law_no_term" ["_law_cell", "_law_term"] F_l_no_term) :
    FnOk P w K mg base (L2.CX P w) 2 f fd ["_law_cell", "_law_term", "_law_view"] (spD K mg 3 F_l_bad_view) :=
  fnD (N := N_l_bad_view) (k := 1) (fb := b_l_bad_view) F sc_l_bad_view fun cdv A outer s H G E hr tk hp =>
    by exact (dss_cons (ds_set (al := []) (i := 3) sc_l_bad_view.nd rfl (by first | exact .inl rfl | exact .inr rfl) (de_tup (da_cons de_int (da_cons (de_tup (da_cons de_int (da_cons de_int da_nil)) (len_cons (len_cons len_nil)) (szl (by decide))) da_nil)) (len_cons (len_cons len_nil)) (szl (by decide)))) (dss_cons (ds_set (al := []) (i := 4) sc_l_bad_view.nd rfl (by first | exact .inl rfl | exact .inr rfl) (de_callE c_l_no_term hr rfl tk (da_cons (de_bin od_div (dr (dv 0)) (dr de_int)) (da_cons (dv 1) da_nil)) (leq_cons (leq_cons leq_nil)))) (dss_cons (ds_set (al := []) (i := 5) sc_l_bad_view.nd rfl (by first | exact .inl rfl | exact .inr rfl) (de_of (df_lst (da_cons (de_tup da_nil len_nil (by decide)) (da_cons (de_tup (da_cons de_str (da_cons de_int da_nil)) (len_cons (len_cons len_nil)) (szl (by decide))) (da_cons de_str (da_cons de_int (da_cons (de_tup (da_cons de_str (da_cons (dv 1) da_nil)) (len_cons (len_cons len_nil)) (szl (by decide))) (da_cons (de_tup (da_cons de_str (da_cons (dv 2) (da_cons (dv 1) da_nil))) (len_cons (len_cons (len_cons len_nil))) (szl (by decide))) (da_cons (de_tup (da_cons de_str (da_cons (de_tup (da_cons de_str da_nil) (len_cons len_nil) (szl (by decide))) (da_cons (dv 2) da_nil))) (len_cons (len_cons (len_cons len_nil))) (szl (by decide))) (da_cons (de_tup (da_cons de_str da_nil) (len_cons len_nil) (szl (by decide))) da_nil)))))))) (len_cons (len_cons (len_cons (len_cons (len_cons (len_cons (len_cons (len_cons len_nil)))))))) (szl (by decide))))) (dss_cons (ds_set (al := []) (i := 5) sc_l_bad_view.nd rfl (by first | exact .inl rfl | exact .inr rfl) (de_bin od_add (dr (dv 5)) (dr (de_of (df_lst (da_cons (de_tup (da_cons de_str (da_cons (de_tup da_nil len_nil (by decide)) (da_cons (dv 2) da_nil))) (len_cons (len_cons (len_cons len_nil))) (szl (by decide))) (da_cons (de_tup (da_cons de_str (da_cons (de_tup (da_cons (de_tup da_nil len_nil (by decide)) da_nil) (len_cons len_nil) (szl (by decide))) (da_cons (dv 2) da_nil))) (len_cons (len_cons (len_cons len_nil))) (szl (by decide))) (da_cons (de_tup (da_cons de_str (da_cons (de_tup (da_cons (de_tup (da_cons (dv 1) da_nil) (len_cons len_nil) (szl (by decide))) (da_cons (de_tup (da_cons (dv 1) (da_cons (dv 1) da_nil)) (len_cons (len_cons len_nil)) (szl (by decide))) da_nil)) (len_cons (len_cons len_nil)) (szl (by decide))) (da_cons (dv 2) da_nil))) (len_cons (len_cons (len_cons len_nil))) (szl (by decide))) da_nil))) (len_cons (len_cons (len_cons len_nil))) (szl (by decide))))))) (dss_cons (ds_set (al := []) (i := 5) sc_l_bad_view.nd rfl (by first | exact .inl rfl | exact .inr rfl) (de_bin od_add (dr (dv 5)) (dr (de_of (df_lst (da_cons (de_tup (da_cons de_str (da_cons (de_bin od_repT (dr (de_tup (da_cons (de_tup (da_cons (dv 1) da_nil) (len_cons len_nil) (szl (by decide))) da_nil) (len_cons len_nil) (szl (by decide)))) (dr de_int)) (da_cons (dv 2) da_nil))) (len_cons (len_cons (len_cons len_nil))) (szl (by decide))) (da_cons (de_tup (da_cons de_str (da_cons (de_tup (da_cons (de_bin od_repT (dr (de_tup (da_cons (dv 1) da_nil) (len_cons len_nil) (szl (by decide)))) (dr de_int)) da_nil) (len_cons len_nil) (szl (by decide))) (da_cons (dv 2) da_nil))) (len_cons (len_cons (len_cons len_nil))) (szl (by decide))) (da_cons (de_tup (da_cons de_str (da_cons (de_tup (da_cons (dv 1) da_nil) (len_cons len_nil) (szl (by decide))) (da_cons (dv 2) da_nil))) (len_cons (len_cons (len_cons len_nil))) (szl (by decide))) da_nil))) (len_cons (len_cons (len_cons len_nil))) (szl (by decide))))))) (dss_cons (ds_set (al := []) (i := 5) sc_l_bad_view.nd rfl (by first | exact .inl rfl | exact .inr rfl) (de_bin od_add (dr (dv 5)) (dr (de_of (df_lst (da_cons (de_tup (da_cons de_str da_nil) (len_cons len_nil) (szl (by decide))) (da_cons (de_tup (da_cons de_str (da_cons (dv 2) (da_cons (dv 2) da_nil))) (len_cons (len_cons (len_cons len_nil))) (szl (by decide))) (da_cons (de_tup (da_cons de_str (da_cons (dv 1) (da_cons de_int (da_cons (dv 2) da_nil)))) (len_cons (len_cons (len_cons (len_cons len_nil)))) (szl (by decide))) (da_cons (de_tup (da_cons de_str (da_cons (dv 1) (da_cons de_int (da_cons (dv 2) da_nil)))) (len_cons (len_cons (len_cons (len_cons len_nil)))) (szl (by decide))) da_nil)))) (len_cons (len_cons (len_cons (len_cons len_nil)))) (szl (by decide))))))) (dss_cons (ds_set (al := []) (i := 5) sc_l_bad_view.nd rfl (by first | exact .inl rfl | exact .inr rfl) (de_bin od_add (dr (dv 5)) (dr (de_of (df_lst (da_cons (de_tup (da_cons de_str (da_cons de_int (da_cons (dv 1) (da_cons (dv 2) da_nil)))) (len_cons (len_cons (len_cons (len_cons len_nil)))) (szl (by decide))) (da_cons (de_tup (da_cons de_str (da_cons (dv 2) da_nil)) (len_cons (len_cons len_nil)) (szl (by decide))) (da_cons (de_tup (da_cons de_str (da_cons (dv 2) (da_cons (dv 1) da_nil))) (len_cons (len_cons (len_cons len_nil))) (szl (by decide))) (da_cons (de_tup (da_cons de_str (da_cons (de_bin od_repT (dr (de_tup (da_cons (dv 3) da_nil) (len_cons len_nil) (szl (by decide)))) (dr de_int)) (da_cons (dv 1) (da_cons (dv 2) da_nil)))) (len_cons (len_cons (len_cons (len_cons len_nil)))) (szl (by decide))) da_nil)))) (len_cons (len_cons (len_cons (len_cons len_nil)))) (szl (by decide))))))) (dss_cons (ds_set (al := []) (i := 5) sc_l_bad_view.nd rfl (by first | exact .inl rfl | exact .inr rfl) (de_bin od_add (dr (dv 5)) (dr (de_of (df_lst (da_cons (de_tup (da_cons de_str (da_cons (de_tup (da_cons (dv 3) (da_cons (de_tup (da_cons de_int (da_cons (de_tup (da_cons de_int da_nil) (len_cons len_nil) (szl (by decide))) da_nil)) (len_cons (len_cons len_nil)) (szl (by decide))) da_nil)) (len_cons (len_cons len_nil)) (szl (by decide))) (da_cons (dv 1) (da_cons (dv 2) da_nil)))) (len_cons (len_cons (len_cons (len_cons len_nil)))) (szl (by decide))) (da_cons (de_tup (da_cons de_str (da_cons (de_tup (da_cons (de_tup (da_cons de_int (da_cons (de_tup da_nil len_nil (by decide)) da_nil)) (len_cons (len_cons len_nil)) (szl (by decide))) da_nil) (len_cons len_nil) (szl (by decide))) (da_cons (dv 1) (da_cons (dv 2) da_nil)))) (len_cons (len_cons (len_cons (len_cons len_nil)))) (szl (by decide))) da_nil)) (len_cons (len_cons len_nil)) (szl (by decide))))))) (dss_cons (ds_set (al := []) (i := 5) sc_l_bad_view.nd rfl (by first | exact .inl rfl | exact .inr rfl) (de_bin od_add (dr (dv 5)) (dr (de_of (df_lst (da_cons (de_tup (da_cons de_str (da_cons (de_tup (da_cons (de_tup (da_cons de_int (da_cons (de_tup (da_cons de_int (da_cons de_int (da_cons de_int (da_cons de_int (da_cons de_int da_nil))))) (len_cons (len_cons (len_cons (len_cons (len_cons len_nil))))) (szl (by decide))) da_nil)) (len_cons (len_cons len_nil)) (szl (by decide))) da_nil) (len_cons len_nil) (szl (by decide))) (da_cons (dv 1) (da_cons (dv 2) da_nil)))) (len_cons (len_cons (len_cons (len_cons len_nil)))) (szl (by decide))) (da_cons (de_tup (da_cons de_str (da_cons (de_tup (da_cons (de_tup (da_cons (de_bin od_add (dr (de_bin od_pow (dr de_int) (dr de_int))) (dr de_int)) (da_cons (de_tup (da_cons de_int da_nil) (len_cons len_nil) (szl (by decide))) da_nil)) (len_cons (len_cons len_nil)) (szl (by decide))) da_nil) (len_cons len_nil) (szl (by decide))) (da_cons (dv 1) (da_cons (dv 2) da_nil)))) (len_cons (len_cons (len_cons (len_cons len_nil)))) (szl (by decide))) da_nil)) (len_cons (len_cons len_nil)) (szl (by decide))))))) (dss_cons (ds_set (al := []) (i := 5) sc_l_bad_view.nd rfl (by first | exact .inl rfl | exact .inr rfl) (de_bin od_add (dr (dv 5)) (dr (de_of (df_lst (da_cons (de_tup (da_cons de_str (da_cons (de_tup (da_cons (de_tup (da_cons de_int (da_cons (de_tup (da_cons (de_bin od_sub (dr (de_neg (de_bin od_pow (dr de_int) (dr de_int)))) (dr de_int)) da_nil) (len_cons len_nil) (szl (by decide))) da_nil)) (len_cons (len_cons len_nil)) (szl (by decide))) da_nil) (len_cons len_nil) (szl (by decide))) (da_cons (dv 1) (da_cons (dv 2) da_nil)))) (len_cons (len_cons (len_cons (len_cons len_nil)))) (szl (by decide))) (da_cons (de_tup (da_cons de_str (da_cons (de_tup (da_cons (dv 3) da_nil) (len_cons len_nil) (szl (by decide))) (da_cons (dv 2) da_nil))) (len_cons (len_cons (len_cons len_nil))) (szl (by decide))) (da_cons (de_tup (da_cons de_str (da_cons (dv 2) (da_cons (dv 2) da_nil))) (len_cons (len_cons (len_cons len_nil))) (szl (by decide))) da_nil))) (len_cons (len_cons (len_cons len_nil))) (szl (by decide))))))) (dss_cons (ds_set (al := []) (i := 5) sc_l_bad_view.nd rfl (by first | exact .inl rfl | exact .inr rfl) (de_bin od_add (dr (dv 5)) (dr (de_of (df_lst (da_cons (de_tup (da_cons de_str (da_cons (dv 3) (da_cons (dv 1) (da_cons (dv 2) da_nil)))) (len_cons (len_cons (len_cons (len_cons len_nil)))) (szl (by decide))) (da_cons (de_tup (da_cons de_str (da_cons (dv 4) (da_cons de_int (da_cons (dv 2) da_nil)))) (len_cons (len_cons (len_cons (len_cons len_nil)))) (szl (by decide))) (da_cons (de_tup (da_cons de_str (da_cons (de_tup (da_cons (dv 3) da_nil) (len_cons len_nil) (szl (by decide))) (da_cons (dv 4) (da_cons (dv 2) da_nil)))) (len_cons (len_cons (len_cons (len_cons len_nil)))) (szl (by decide))) da_nil))) (len_cons (len_cons (len_cons len_nil))) (szl (by decide))))))) (dss_cons (ds_ret (al := []) (de_ixA hr.hu1 (dr (de_bin od_add (dr (dv 5)) (dr (de_of (df_lst (da_cons (de_tup (da_cons de_str (da_cons (de_tup (da_cons (de_tup (da_cons (dv 4) da_nil) (len_cons len_nil) (szl (by decide))) da_nil) (len_cons len_nil) (szl (by decide))) (da_cons (dv 2) da_nil))) (len_cons (len_cons (len_cons len_nil))) (szl (by decide))) (da_cons (de_tup (da_cons de_str (da_cons (de_tup (da_cons (de_tup (da_cons (dv 1) (da_cons (dv 4) da_nil)) (len_cons (len_cons len_nil)) (szl (by decide))) da_nil) (len_cons len_nil) (szl (by decide))) (da_cons (dv 2) da_nil))) (len_cons (len_cons (len_cons len_nil))) (szl (by decide))) (da_cons (de_tup (da_cons de_str (da_cons (dv 4) (da_cons (dv 2) da_nil))) (len_cons (len_cons (len_cons len_nil))) (szl (by decide))) da_nil))) (len_cons (len_cons (len_cons len_nil))) (szl (by decide))))))) (de_bin od_mod (dr (dv 0)) (dr de_int)) (fun _ _ => rfl) (fun _ _ => rfl))) dss_nil))))))))))))
abbrev N_l_view_spoiled : List Str := ["_law_view", "_law_cell", "_law_bad", "_law_term"]
theorem sc_l_view_spoiled : FnScope N_l_view_spoiled ["_law_view", "_law_cell", "_law_bad", "_law_term"] (defScope s_l_view_spoiled) := ⟨rfl, rfl, rfl, by decide +kernel, rfl, by decide +kernel, by decide +kernel⟩
theorem ok_l_view_spoiled {P : Program} {w : World} {K : PySem.W.Frag} {mg : Str → Option Value} {base : Heap} {f : Addr} {fd : FuncData} {k : Nat} {G : List D → Res D} (T : Txt K mg w) (F : Fun K "_law_view_spoiled" "_law_view_spoiled" s_l_view_spoiled f fd) (c_l_bad_view : CallOk P w K mg base k "_law_bad_view" ["_law_cell", "_law_term", "_law_view"] F_l_bad_view) (c_l_view_spoiled : CallOk P w K mg base k "_law_view_spoiled" ["_law_view", "_law_cell", "_law_bad", "_law_term"] G) :
    FnOk P w K mg base (L2.CX P w) (k + 1) f fd ["_law_view", "_law_cell", "_law_bad", "_law_term"] (spD K mg 4 (runDef 4 4 (b_l_view_spoiled G))) :=
  fnD (N := N_l_view_spoiled) (k := k) (fb := b_l_view_spoiled G) F sc_l_view_spoiled fun cdv A outer s H _ E hr tk hp =>
    by have hu := Room.hu hr; exact (dss_cons (ds_if (al := []) (dt_w (dw_or (dt_cmp (od_eq hu) (dr (de_bin od_mod (dr (dv 1)) (dr de_int))) (dr de_int) (nomark _)) (dw_or1 (dt_cmp (od_eq hu) (dr (de_ix (dr (dv 0)) (dr de_int) (fun _ _ => rfl))) (dr de_str) (nomark _))))) (dss_cons (ds_ret (al := []) (de_callE c_l_bad_view hr rfl tk (da_cons (dv 2) (da_cons (dv 3) (da_cons (dv 0) da_nil))) (leq_cons (leq_cons (leq_cons leq_nil))))) dss_nil) dss_nil) (dss_cons (ds_ret (al := []) (de_bin od_add (dr (de_cut (dr (dv 0)) do_none (do_some (de_neg de_int)))) (dr (de_tup (da_cons (de_callE c_l_view_spoiled hr rfl tk (da_cons (de_ix (dr (dv 0)) (dr (de_neg de_int)) (fun _ _ => rfl)) (da_cons (de_bin od_div (dr (dv 1)) (dr de_int)) (da_cons (dv 2) (da_cons (dv 3) da_nil)))) (leq_cons (leq_cons (leq_cons (leq_cons leq_nil))))) da_nil) (len_cons len_nil) (szl (by decide)))))) dss_nil))
abbrev N_l_view_deep : List Str := ["_law_view"]
theorem sc_l_view_deep : FnScope N_l_view_deep ["_law_view"] (defScope s_l_view_deep) := ⟨rfl, rfl, rfl, by decide +kernel, rfl, by decide +kernel, by decide +kernel⟩
theorem ok_l_view_deep {P : Program} {w : World} {K : PySem.W.Frag} {mg : Str → Option Value} {base : Heap} {f : Addr} {fd : FuncData} {k : Nat} {G : List D → Res D} (T : Txt K mg w) (F : Fun K "_law_view_deep" "_law_view_deep" s_l_view_deep f fd) (c_l_view_deep : CallOk P w K mg base k "_law_view_deep" ["_law_view"] G) :
    FnOk P w K mg base (L2.CX P w) (k + 1) f fd ["_law_view"] (spD K mg 1 (runDef 1 1 (b_l_view_deep G))) :=
  fnD (N := N_l_view_deep) (k := k) (fb := b_l_view_deep G) F sc_l_view_deep fun cdv A outer s H _ E hr tk hp =>
    by have hu := Room.hu hr; exact (dss_cons (ds_if (al := []) (dt_cmp (od_eq hu) (dr (de_ix (dr (dv 0)) (dr de_int) (fun _ _ => rfl))) (dr de_str) (nomark _)) (dss_cons (ds_ret (al := []) de_int) dss_nil) dss_nil) (dss_cons (ds_if (al := []) (dt_cmp (od_eq hu) (dr (de_ix (dr (dv 0)) (dr de_int) (fun _ _ => rfl))) (dr de_str) (nomark _)) (dss_cons (ds_ret (al := []) (de_bin od_add (dr de_int) (dr (de_b2 (c2_max rfl) rfl T.z_max rfl (dr (de_callE c_l_view_deep hr rfl tk (da_cons (de_ix (dr (dv 0)) (dr de_int) (fun _ _ => rfl)) da_nil) (leq_cons leq_nil))) (dr (de_callE c_l_view_deep hr rfl tk (da_cons (de_ix (dr (dv 0)) (dr de_int) (fun _ _ => rfl)) da_nil) (leq_cons leq_nil))))))) dss_nil) dss_nil) (dss_cons (ds_ret (al := []) (de_bin od_add (dr de_int) (dr (de_callE c_l_view_deep hr rfl tk (da_cons (de_ix (dr (dv 0)) (dr (de_neg de_int)) (fun _ _ => rfl)) da_nil) (leq_cons leq_nil))))) dss_nil)))
abbrev N_l_measure_by : List Str := ["_law_cell", "_law_term", "_law_low", "_law_high", "_law_good", "_law_some", "_law_bad"]
theorem sc_l_measure_by : FnScope N_l_measure_by ["_law_cell", "_law_term"] (defScope s_l_measure_by) := ⟨rfl, rfl, rfl, by decide +kernel, rfl, by decide +kernel, by decide +kernel⟩
theorem ok_l_measure_by {P : Program} {w : World} {K : PySem.W.Frag} {mg : Str → Option Value} {base : Heap} {f : Addr} {fd : FuncData} (T : Txt K mg w) (F : Fun K "_law_measure_by" "_law_measure_by" s_l_measure_by f fd) (c_l_no_term : CallOk P w K mg base 1 "_law_no_term" ["_law_cell", "_law_term"] F_l_no_term) :
    FnOk P w K mg base (L2.CX P w) 2 f fd ["_law_cell", "_law_term"] (spD K mg 2 F_l_measure_by) :=
  fnD (N := N_l_measure_by) (k := 1) (fb := b_l_measure_by) F sc_l_measure_by fun cdv A outer s H G E hr tk hp =>
    by have hu := Room.hu hr; exact (dss_cons (ds_set (al := []) (i := 2) sc_l_measure_by.nd rfl (by first | exact .inl rfl | exact .inr rfl) (de_bin od_sub (dr (de_bin od_mod (dr (de_bin od_div (dr (dv 0)) (dr de_int))) (dr de_int))) (dr de_int))) (dss_cons (ds_set (al := []) (i := 3) sc_l_measure_by.nd rfl (by first | exact .inl rfl | exact .inr rfl) (de_bin od_add (dr (dv 2)) (dr (de_bin od_mod (dr (de_bin od_div (dr (dv 0)) (dr de_int))) (dr de_int))))) (dss_cons (ds_set (al := []) (i := 4) sc_l_measure_by.nd rfl (by first | exact .inl rfl | exact .inr rfl) (de_and (de_cmp (od_le hu) (dr (de_neg de_int)) (dr (dv 2)) (nomark _)) (de_one (de_cmp (od_le hu) (dr (dv 3)) (dr de_int) (nomark _))))) (dss_cons (ds_set (al := []) (i := 5) sc_l_measure_by.nd rfl (by first | exact .inl rfl | exact .inr rfl) (de_of (df_lst (da_cons (de_tup (da_cons (de_tup (da_cons de_str da_nil) (len_cons len_nil) (szl (by decide))) (da_cons de_bl da_nil)) (len_cons (len_cons len_nil)) (szl (by decide))) (da_cons (de_tup (da_cons (de_tup (da_cons de_str (da_cons (dv 1) da_nil)) (len_cons (len_cons len_nil)) (szl (by decide))) (da_cons de_bl da_nil)) (len_cons (len_cons len_nil)) (szl (by decide))) (da_cons (de_tup (da_cons (de_tup (da_cons de_str (da_cons (dv 1) (da_cons (dv 2) (da_cons (dv 3) da_nil)))) (len_cons (len_cons (len_cons (len_cons len_nil)))) (szl (by decide))) (da_cons (dv 4) da_nil)) (len_cons (len_cons len_nil)) (szl (by decide))) da_nil))) (len_cons (len_cons (len_cons len_nil))) (szl (by decide))))) (dss_cons (ds_set (al := []) (i := 5) sc_l_measure_by.nd rfl (by first | exact .inl rfl | exact .inr rfl) (de_bin od_add (dr (dv 5)) (dr (de_of (df_lst (da_cons (de_tup (da_cons (de_tup (da_cons de_str (da_cons (dv 1) (da_cons (de_bin od_add (dr de_int) (dr (de_bin od_mod (dr (de_bin od_div (dr (dv 0)) (dr de_int))) (dr de_int)))) (da_cons de_int da_nil)))) (len_cons (len_cons (len_cons (len_cons len_nil)))) (szl (by decide))) (da_cons de_bl da_nil)) (len_cons (len_cons len_nil)) (szl (by decide))) (da_cons (de_tup (da_cons (de_tup (da_cons de_str (da_cons (dv 1) da_nil)) (len_cons (len_cons len_nil)) (szl (by decide))) (da_cons de_bl da_nil)) (len_cons (len_cons len_nil)) (szl (by decide))) (da_cons (de_tup (da_cons (de_tup (da_cons de_str da_nil) (len_cons len_nil) (szl (by decide))) (da_cons de_bl da_nil)) (len_cons (len_cons len_nil)) (szl (by decide))) da_nil))) (len_cons (len_cons (len_cons len_nil))) (szl (by decide))))))) (dss_cons (ds_set (al := []) (i := 5) sc_l_measure_by.nd rfl (by first | exact .inl rfl | exact .inr rfl) (de_bin od_add (dr (dv 5)) (dr (de_of (df_lst (da_cons (de_tup (da_cons (de_tup (da_cons de_str (da_cons (dv 2) (da_cons (dv 3) (da_cons (dv 1) da_nil)))) (len_cons (len_cons (len_cons (len_cons len_nil)))) (szl (by decide))) (da_cons de_bl da_nil)) (len_cons (len_cons len_nil)) (szl (by decide))) (da_cons (de_tup (da_cons (de_tup (da_cons de_str (da_cons (de_tup (da_cons de_str (da_cons de_str da_nil)) (len_cons (len_cons len_nil)) (szl (by decide))) da_nil)) (len_cons (len_cons len_nil)) (szl (by decide))) (da_cons de_bl da_nil)) (len_cons (len_cons len_nil)) (szl (by decide))) (da_cons (de_tup (da_cons (de_tup (da_cons de_str (da_cons (dv 1) da_nil)) (len_cons (len_cons len_nil)) (szl (by decide))) (da_cons de_bl da_nil)) (len_cons (len_cons len_nil)) (szl (by decide))) da_nil))) (len_cons (len_cons (len_cons len_nil))) (szl (by decide))))))) (dss_cons (ds_set (al := []) (i := 5) sc_l_measure_by.nd rfl (by first | exact .inl rfl | exact .inr rfl) (de_bin od_add (dr (dv 5)) (dr (de_of (df_lst (da_cons (de_tup (da_cons (de_tup da_nil len_nil (by decide)) (da_cons de_bl da_nil)) (len_cons (len_cons len_nil)) (szl (by decide))) (da_cons (de_tup (da_cons (de_tup (da_cons de_str (da_cons (dv 1) (da_cons de_int da_nil))) (len_cons (len_cons (len_cons len_nil))) (szl (by decide))) (da_cons de_bl da_nil)) (len_cons (len_cons len_nil)) (szl (by decide))) (da_cons (de_tup (da_cons (dv 1) (da_cons de_bl da_nil)) (len_cons (len_cons len_nil)) (szl (by decide))) (da_cons (de_tup (da_cons de_str (da_cons de_bl da_nil)) (len_cons (len_cons len_nil)) (szl (by decide))) da_nil)))) (len_cons (len_cons (len_cons (len_cons len_nil)))) (szl (by decide))))))) (dss_cons (ds_set (al := []) (i := 6) sc_l_measure_by.nd rfl (by first | exact .inl rfl | exact .inr rfl) (de_callE c_l_no_term hr rfl tk (da_cons (de_bin od_div (dr (dv 0)) (dr de_int)) (da_cons (dv 1) da_nil)) (leq_cons (leq_cons leq_nil)))) (dss_cons (ds_set (al := []) (i := 5) sc_l_measure_by.nd rfl (by first | exact .inl rfl | exact .inr rfl) (de_bin od_add (dr (dv 5)) (dr (de_of (df_lst (da_cons (de_tup (da_cons (de_tup (da_cons de_str (da_cons (dv 1) (da_cons de_int (da_cons de_int da_nil)))) (len_cons (len_cons (len_cons (len_cons len_nil)))) (szl (by decide))) (da_cons de_bl da_nil)) (len_cons (len_cons len_nil)) (szl (by decide))) (da_cons (de_tup (da_cons (de_tup (da_cons de_str (da_cons (dv 6) (da_cons de_int (da_cons de_int da_nil)))) (len_cons (len_cons (len_cons (len_cons len_nil)))) (szl (by decide))) (da_cons de_bl da_nil)) (len_cons (len_cons len_nil)) (szl (by decide))) (da_cons (de_tup (da_cons (de_tup (da_cons de_str (da_cons (dv 6) da_nil)) (len_cons (len_cons len_nil)) (szl (by decide))) (da_cons de_bl da_nil)) (len_cons (len_cons len_nil)) (szl (by decide))) da_nil))) (len_cons (len_cons (len_cons len_nil))) (szl (by decide))))))) (dss_cons (ds_ret (al := []) (de_ixA hr.hu1 (dr (dv 5)) (de_bin od_mod (dr (dv 0)) (dr de_int)) (fun _ _ => rfl) (fun _ _ => rfl))) dss_nil))))))))))
abbrev N_is_measure : List Str := ["thing"]
theorem sc_is_measure : FnScope N_is_measure ["thing"] (defScope s_is_measure) := ⟨rfl, rfl, rfl, by decide +kernel, rfl, by decide +kernel, by decide +kernel⟩
theorem ok_is_measure {P : Program} {w : World} {K : PySem.W.Frag} {mg : Str → Option Value} {base : Heap} {f : Addr} {fd : FuncData} (T : Txt K mg w) (F : Fun K "is_measure" "is_measure" s_is_measure f fd) (c_headed : CallOk P w K mg base 18 "headed" ["thing"] F_headed) (c_is_term : CallOk P w K mg base 18 "is_term" ["thing"] F_is_term) (c_lies_between : CallOk P w K mg base 18 "lies_between" ["thing", "low", "high"] F_lies_between) :
    FnOk P w K mg base (L2.CX P w) 19 f fd ["thing"] (spD K mg 1 F_is_measure) :=
  fnD (N := N_is_measure) (k := 18) (fb := b_is_measure) F sc_is_measure fun cdv A outer s H G E hr tk hp =>
    by have hu := Room.hu hr; exact (dss_cons (ds_if (al := []) (dt_not (dt_truth (dr (de_callE c_headed hr rfl tk (da_cons (dv 0) da_nil) (leq_cons leq_nil))) (fun _ => rfl))) (dss_cons (ds_ret (al := []) de_bl) dss_nil) dss_nil) (dss_cons (ds_if (al := []) (dt_cmp (od_eq hu) (dr (de_ix (dr (dv 0)) (dr de_int) (fun _ _ => rfl))) (dr de_str) (nomark _)) (dss_cons (ds_ret (al := []) (de_cmp (od_eq hu) (dr (de_b1 c1_len rfl T.z_len rfl (dr (dv 0)))) (dr de_int) (nomark _))) dss_nil) dss_nil) (dss_cons (ds_if (al := []) (dt_cmp (od_eq hu) (dr (de_ix (dr (dv 0)) (dr de_int) (fun _ _ => rfl))) (dr de_str) (nomark _)) (dss_cons (ds_ret (al := []) (de_and (de_cmp (od_eq hu) (dr (de_b1 c1_len rfl T.z_len rfl (dr (dv 0)))) (dr de_int) (nomark _)) (de_one (de_callE c_is_term hr rfl tk (da_cons (de_ix (dr (dv 0)) (dr de_int) (fun _ _ => rfl)) da_nil) (leq_cons leq_nil))))) dss_nil) dss_nil) (dss_cons (ds_if (al := []) (dt_w (dw_or (dt_cmp (od_ne hu) (dr (de_ix (dr (dv 0)) (dr de_int) (fun _ _ => rfl))) (dr de_str) (nomark _)) (dw_or (dt_cmp (od_ne hu) (dr (de_b1 c1_len rfl T.z_len rfl (dr (dv 0)))) (dr de_int) (nomark _)) (dw_or1 (dt_not (dt_truth (dr (de_callE c_is_term hr rfl tk (da_cons (de_ix (dr (dv 0)) (dr de_int) (fun _ _ => rfl)) da_nil) (leq_cons leq_nil))) (fun _ => rfl))))))) (dss_cons (ds_ret (al := []) de_bl) dss_nil) dss_nil) (dss_cons (ds_ret (al := []) (de_and (de_callE c_lies_between hr rfl tk (da_cons (de_ix (dr (dv 0)) (dr de_int) (fun _ _ => rfl)) (da_cons (de_neg de_int) (da_cons de_int da_nil))) (leq_cons (leq_cons (leq_cons leq_nil)))) (de_and (de_callE c_lies_between hr rfl tk (da_cons (de_ix (dr (dv 0)) (dr de_int) (fun _ _ => rfl)) (da_cons (de_neg de_int) (da_cons de_int da_nil))) (leq_cons (leq_cons (leq_cons leq_nil)))) (de_one (de_cmp (od_le hu) (dr (de_ix (dr (dv 0)) (dr de_int) (fun _ _ => rfl))) (dr (de_ix (dr (dv 0)) (dr de_int) (fun _ _ => rfl))) (nomark _)))))) dss_nil)))))
abbrev N_law : List Str := ["_law_script", "_law_cells", "_law_terms", "_law_views", "_law_k", "_law_cell", "_law_term", "_law_view", "_law_due", "_law_j", "_law_found", "_law_measure", "_law_good"]
theorem sc_law : FnScope N_law ["_law_script"] (defScope s_law) := ⟨rfl, rfl, rfl, by decide +kernel, rfl, by decide +kernel, by decide +kernel⟩
theorem ok_law {P : Program} {w : World} {K : PySem.W.Frag} {mg : Str → Option Value} {base : Heap} {f : Addr} {fd : FuncData} (T : Txt K mg w) (F : Fun K "law" "law" s_law f fd) (c_l_grown : CallOk P w K mg base 32 "_law_grown" ["_law_cells"] F_l_grown) (c_l_view_grown : CallOk P w K mg base 32 "_law_view_grown" ["_law_cells", "_law_terms"] F_l_view_grown) (c_is_view : CallOk P w K mg base 32 "is_view" ["thing"] F_is_view) (c_l_view_spoiled : CallOk P w K mg base 32 "_law_view_spoiled" ["_law_view", "_law_cell", "_law_bad", "_law_term"] F_l_view_spoiled) (c_l_view_deep : CallOk P w K mg base 32 "_law_view_deep" ["_law_view"] F_l_view_deep) (c_l_measure_by : CallOk P w K mg base 32 "_law_measure_by" ["_law_cell", "_law_term"] F_l_measure_by) (c_is_measure : CallOk P w K mg base 32 "is_measure" ["thing"] F_is_measure) :
    FnOk P w K mg base (L2.CX P w) 33 f fd ["_law_script"] (spD K mg 1 F_law) :=
  fnD (N := N_law) (k := 32) (fb := b_law) F sc_law fun cdv A outer s H G E hr tk hp =>
    by have hu := Room.hu hr; exact (dss_cons (ds_set (al := []) (i := 1) sc_law.nd rfl (by first | exact .inl rfl | exact .inr rfl) (de_bin od_add (dr (dv 0)) (dr (de_of (df_lst (da_cons de_int da_nil) (len_cons len_nil) (szl (by decide))))))) (dss_cons (ds_set (al := []) (i := 2) sc_law.nd rfl (by first | exact .inl rfl | exact .inr rfl) (de_callE c_l_grown hr rfl tk (da_cons (dv 1) da_nil) (leq_cons leq_nil))) (dss_cons (ds_set (al := []) (i := 3) sc_law.nd rfl (by first | exact .inl rfl | exact .inr rfl) (de_callE c_l_view_grown hr rfl tk (da_cons (dv 1) (da_cons (dv 2) da_nil)) (leq_cons (leq_cons leq_nil)))) (dss_cons (ds_for (al := []) hp rfl (di_range1 rfl T.z_range (de_b1 c1_len rfl T.z_len rfl (dr (dv 1)))) (dg_name (i := 4) sc_law.nd rfl (by first | exact .inl rfl | exact .inr rfl)) (fun _ => (dss_cons (ds_set (al := []) (i := 5) sc_law.nd rfl (by first | exact .inl rfl | exact .inr rfl) (de_bin od_mod (dr (de_ixA hr.hu1 (dr (dv 1)) (dv 4) (fun _ _ => rfl) (fun _ _ => rfl))) (dr (de_bin od_pow (dr de_int) (dr de_int))))) (dss_cons (ds_set (al := []) (i := 6) sc_law.nd rfl (by first | exact .inl rfl | exact .inr rfl) (de_ixA hr.hu1 (dr (dv 2)) (de_bin od_mod (dr (dv 4)) (dr (de_b1 c1_len rfl T.z_len rfl (dr (dv 2))))) (fun _ _ => rfl) (fun _ _ => rfl))) (dss_cons (ds_set (al := []) (i := 7) sc_law.nd rfl (by first | exact .inl rfl | exact .inr rfl) (de_ixA hr.hu1 (dr (dv 3)) (de_bin od_mod (dr (dv 4)) (dr (de_b1 c1_len rfl T.z_len rfl (dr (dv 3))))) (fun _ _ => rfl) (fun _ _ => rfl))) (dss_cons (ds_if (al := []) (dt_w (dw_or (dt_cmp od_isNot (dr (de_callE c_is_view hr rfl tk (da_cons (dv 7) da_nil) (leq_cons leq_nil))) (dr de_bl) (nomark _)) (dw_or1 (dt_cmp od_isNot (dr (de_callE c_is_view hr rfl tk (da_cons (de_callE c_l_view_spoiled hr rfl tk (da_cons (dv 7) (da_cons (de_bin od_div (dr (dv 5)) (dr de_int)) (da_cons (dv 5) (da_cons (dv 6) da_nil)))) (leq_cons (leq_cons (leq_cons (leq_cons leq_nil))))) da_nil) (leq_cons leq_nil))) (dr de_bl) (nomark _))))) (dss_cons (ds_ret (al := []) de_bl) dss_nil) dss_nil) (dss_cons (ds_set (al := []) (i := 8) sc_law.nd rfl (by first | exact .inl rfl | exact .inr rfl) (de_cmp (od_le hu) (dr (de_bin od_add (dr (de_callE c_l_view_deep hr rfl tk (da_cons (dv 7) da_nil) (leq_cons leq_nil))) (dr (de_bin od_mod (dr (de_bin od_div (dr (dv 5)) (dr de_int))) (dr de_int))))) (dr de_int) (nomark _))) (dss_cons (ds_for (al := []) hp rfl (di_range1 rfl T.z_range (de_bin od_mod (dr (de_bin od_div (dr (dv 5)) (dr de_int))) (dr de_int))) (dg_name (i := 9) sc_law.nd rfl (by first | exact .inl rfl | exact .inr rfl)) (fun _ => (dss_cons (ds_set (al := []) (i := 7) sc_law.nd rfl (by first | exact .inl rfl | exact .inr rfl) (de_ixA hr.hu1 (dr (de_of (df_lst (da_cons (de_tup (da_cons de_str (da_cons (dv 7) da_nil)) (len_cons (len_cons len_nil)) (szl (by decide))) (da_cons (de_tup (da_cons de_str (da_cons (de_tup (da_cons de_str (da_cons de_int da_nil)) (len_cons (len_cons len_nil)) (szl (by decide))) (da_cons (dv 7) da_nil))) (len_cons (len_cons (len_cons len_nil))) (szl (by decide))) (da_cons (de_tup (da_cons de_str (da_cons (dv 7) (da_cons (de_tup (da_cons de_str da_nil) (len_cons len_nil) (szl (by decide))) da_nil))) (len_cons (len_cons (len_cons len_nil))) (szl (by decide))) da_nil))) (len_cons (len_cons (len_cons len_nil))) (szl (by decide))))) (de_bin od_mod (dr (de_bin od_add (dr (dv 5)) (dr (dv 9)))) (dr de_int)) (fun _ _ => rfl) (fun _ _ => rfl))) dss_nil))) (dss_cons (ds_set (al := []) (i := 10) sc_law.nd rfl (by first | exact .inl rfl | exact .inr rfl) (de_callE c_is_view hr rfl tk (da_cons (dv 7) da_nil) (leq_cons leq_nil))) (dss_cons (ds_if (al := []) (dt_w (dw_or (dt_not (dt_truth (dr (de_isi is_bool rfl T.z_isinstance rfl (dr (dv 10)) rfl T.z_bool rfl)) (fun _ => rfl))) (dw_or1 (dt_cmp (od_ne hu) (dr (dv 10)) (dr (dv 8)) (nomark _))))) (dss_cons (ds_ret (al := []) de_bl) dss_nil) dss_nil) (dss_cons (ds_asg (al := []) (de_callE c_l_measure_by hr rfl tk (da_cons (dv 5) (da_cons (dv 6) da_nil)) (leq_cons (leq_cons leq_nil))) (dg_tup rfl (dgs_cons (dg_name (i := 11) sc_law.nd rfl (by first | exact .inl rfl | exact .inr rfl)) (dgs_cons (dg_name (i := 12) sc_law.nd rfl (by first | exact .inl rfl | exact .inr rfl)) dgs_nil)) rfl)) (dss_cons (ds_set (al := []) (i := 10) sc_law.nd rfl (by first | exact .inl rfl | exact .inr rfl) (de_callE c_is_measure hr rfl tk (da_cons (dv 11) da_nil) (leq_cons leq_nil))) (dss_cons (ds_if (al := []) (dt_w (dw_or (dt_not (dt_truth (dr (de_isi is_bool rfl T.z_isinstance rfl (dr (dv 10)) rfl T.z_bool rfl)) (fun _ => rfl))) (dw_or1 (dt_cmp (od_ne hu) (dr (dv 10)) (dr (dv 12)) (nomark _))))) (dss_cons (ds_ret (al := []) de_bl) dss_nil) dss_nil) dss_nil))))))))))))) (dss_cons (ds_ret (al := []) de_bl) dss_nil)))))
end DLaw
namespace DLaw
open PySem PySem.Spec PyProof.Rows L2
open DL
theorem all_mk {P : Program} {w : World} {K : PySem.W.Frag} {h : Heap} {mg : Str → Option Value} {fa : Addr} (X : K.In h) (G : h.Ns mainGlobals mg) (hfa : mg "law" = some (.ref fa))
    {f1 f2 f3 f4 f5 f6 f7 f8 f9 f10 f11 f12 f13 f14 f15 f16 f17 f18 f19 f20 f21 f22 f23 f24 : Addr} {od1 an1 od2 an2 od3 an3 od4 an4 od5 an5 od6 an6 od7 an7 od8 an8 od9 an9 od10 an10 od11 an11 od12 an12 od13 an13 od14 an14 od15 an15 od16 an16 od17 an17 od18 an18 od19 an19 od20 an20 od21 an21 od22 an22 od23 an23 od24 an24 : Option Addr} {sl1 sl2 sl3 sl4 sl5 sl6 sl7 sl8 sl9 sl10 sl11 sl12 sl13 sl14 sl15 sl16 sl17 sl18 sl19 sl20 sl21 sl22 sl23 sl24 : Array (Option Value)} {oc1 kV1 dc1 pm1 cd1 ct1 oc2 kV2 dc2 pm2 cd2 ct2 oc3 kV3 dc3 pm3 cd3 ct3 oc4 kV4 dc4 pm4 cd4 ct4 oc5 kV5 dc5 pm5 cd5 ct5 oc6 kV6 dc6 pm6 cd6 ct6 oc7 kV7 dc7 pm7 cd7 ct7 oc8 kV8 dc8 pm8 cd8 ct8 oc9 kV9 dc9 pm9 cd9 ct9 oc10 kV10 dc10 pm10 cd10 ct10 oc11 kV11 dc11 pm11 cd11 ct11 oc12 kV12 dc12 pm12 cd12 ct12 oc13 kV13 dc13 pm13 cd13 ct13 oc14 kV14 dc14 pm14 cd14 ct14 oc15 kV15 dc15 pm15 cd15 ct15 oc16 kV16 dc16 pm16 cd16 ct16 oc17 kV17 dc17 pm17 cd17 ct17 oc18 kV18 dc18 pm18 cd18 ct18 oc19 kV19 dc19 pm19 cd19 ct19 oc20 kV20 dc20 pm20 cd20 ct20 oc21 kV21 dc21 pm21 cd21 ct21 oc22 kV22 dc22 pm22 cd22 ct22 oc23 kV23 dc23 pm23 cd23 ct23 oc24 kV24 dc24 pm24 cd24 ct24 : Value}
    {D_PARTS : Addr} {dt0_PARTS : Tok}  {dt1_PARTS : Tok}  {dt2_PARTS : Tok}  {dt3_PARTS : Tok}  {dt4_PARTS : Tok}  {dt5_PARTS : Tok}  {dt6_PARTS : Tok}  {dt7_PARTS : Tok}  {dt8_PARTS : Tok}  {dt9_PARTS : Tok}{tk1 : Tok} {tk2 : Tok}
    (a1 : PySem.W.nsIn K mainGlobals "_law_leaf_by" = some (some (.ref f1))) (l1 : K.lookup f1 = some ⟨oc1, od1, .func (PySem.W.fnOf "_law_leaf_by" "_law_leaf_by" (defArgs s_l_leaf_by) (defBody s_l_leaf_by) (defScope s_l_leaf_by) .none kV1 dc1 pm1 an1 cd1 ct1), sl1⟩) (c1 : PySem.W.codeIn K cd1 "_law_leaf_by" = true) (k1 : PySem.W.keepIn K (.ref f1) = true)
    (a2 : PySem.W.nsIn K mainGlobals "_law_grown" = some (some (.ref f2))) (l2 : K.lookup f2 = some ⟨oc2, od2, .func (PySem.W.fnOf "_law_grown" "_law_grown" (defArgs s_l_grown) (defBody s_l_grown) (defScope s_l_grown) .none kV2 dc2 pm2 an2 cd2 ct2), sl2⟩) (c2 : PySem.W.codeIn K cd2 "_law_grown" = true) (k2 : PySem.W.keepIn K (.ref f2) = true)
    (a3 : PySem.W.nsIn K mainGlobals "_law_lists_by" = some (some (.ref f3))) (l3 : K.lookup f3 = some ⟨oc3, od3, .func (PySem.W.fnOf "_law_lists_by" "_law_lists_by" (defArgs s_l_lists_by) (defBody s_l_lists_by) (defScope s_l_lists_by) .none kV3 dc3 pm3 an3 cd3 ct3), sl3⟩) (c3 : PySem.W.codeIn K cd3 "_law_lists_by" = true) (k3 : PySem.W.keepIn K (.ref f3) = true)
    (a4 : PySem.W.nsIn K mainGlobals "_law_pairs_by" = some (some (.ref f4))) (l4 : K.lookup f4 = some ⟨oc4, od4, .func (PySem.W.fnOf "_law_pairs_by" "_law_pairs_by" (defArgs s_l_pairs_by) (defBody s_l_pairs_by) (defScope s_l_pairs_by) .none kV4 dc4 pm4 an4 cd4 ct4), sl4⟩) (c4 : PySem.W.codeIn K cd4 "_law_pairs_by" = true) (k4 : PySem.W.keepIn K (.ref f4) = true)
    (a5 : PySem.W.nsIn K mainGlobals "_law_view_grown" = some (some (.ref f5))) (l5 : K.lookup f5 = some ⟨oc5, od5, .func (PySem.W.fnOf "_law_view_grown" "_law_view_grown" (defArgs s_l_view_grown) (defBody s_l_view_grown) (defScope s_l_view_grown) .none kV5 dc5 pm5 an5 cd5 ct5), sl5⟩) (c5 : PySem.W.codeIn K cd5 "_law_view_grown" = true) (k5 : PySem.W.keepIn K (.ref f5) = true)
    (a6 : PySem.W.nsIn K mainGlobals "headed" = some (some (.ref f6))) (l6 : K.lookup f6 = some ⟨oc6, od6, .func (PySem.W.fnOf "headed" "headed" (defArgs s_headed) (defBody s_headed) (defScope s_headed) .none kV6 dc6 pm6 an6 cd6 ct6), sl6⟩) (c6 : PySem.W.codeIn K cd6 "headed" = true) (k6 : PySem.W.keepIn K (.ref f6) = true)
    (a7 : PySem.W.nsIn K mainGlobals "is_whole" = some (some (.ref f7))) (l7 : K.lookup f7 = some ⟨oc7, od7, .func (PySem.W.fnOf "is_whole" "is_whole" (defArgs s_is_whole) (defBody s_is_whole) (defScope s_is_whole) .none kV7 dc7 pm7 an7 cd7 ct7), sl7⟩) (c7 : PySem.W.codeIn K cd7 "is_whole" = true) (k7 : PySem.W.keepIn K (.ref f7) = true)
    (a8 : PySem.W.nsIn K mainGlobals "lies_between" = some (some (.ref f8))) (l8 : K.lookup f8 = some ⟨oc8, od8, .func (PySem.W.fnOf "lies_between" "lies_between" (defArgs s_lies_between) (defBody s_lies_between) (defScope s_lies_between) .none kV8 dc8 pm8 an8 cd8 ct8), sl8⟩) (c8 : PySem.W.codeIn K cd8 "lies_between" = true) (k8 : PySem.W.keepIn K (.ref f8) = true)
    (a9 : PySem.W.nsIn K mainGlobals "is_number" = some (some (.ref f9))) (l9 : K.lookup f9 = some ⟨oc9, od9, .func (PySem.W.fnOf "is_number" "is_number" (defArgs s_is_number) (defBody s_is_number) (defScope s_is_number) .none kV9 dc9 pm9 an9 cd9 ct9), sl9⟩) (c9 : PySem.W.codeIn K cd9 "is_number" = true) (k9 : PySem.W.keepIn K (.ref f9) = true)
    (a10 : PySem.W.nsIn K mainGlobals "is_name" = some (some (.ref f10))) (l10 : K.lookup f10 = some ⟨oc10, od10, .func (PySem.W.fnOf "is_name" "is_name" (defArgs s_is_name) (defBody s_is_name) (defScope s_is_name) .none kV10 dc10 pm10 an10 cd10 ct10), sl10⟩) (c10 : PySem.W.codeIn K cd10 "is_name" = true) (k10 : PySem.W.keepIn K (.ref f10) = true)
    (a11 : PySem.W.nsIn K mainGlobals "term_fits" = some (some (.ref f11))) (l11 : K.lookup f11 = some ⟨oc11, od11, .func (PySem.W.fnOf "term_fits" "term_fits" (defArgs s_term_fits) (defBody s_term_fits) (defScope s_term_fits) .none kV11 dc11 pm11 an11 cd11 ct11), sl11⟩) (c11 : PySem.W.codeIn K cd11 "term_fits" = true) (k11 : PySem.W.keepIn K (.ref f11) = true)
    (a12 : PySem.W.nsIn K mainGlobals "is_term" = some (some (.ref f12))) (l12 : K.lookup f12 = some ⟨oc12, od12, .func (PySem.W.fnOf "is_term" "is_term" (defArgs s_is_term) (defBody s_is_term) (defScope s_is_term) .none kV12 dc12 pm12 an12 cd12 ct12), sl12⟩) (c12 : PySem.W.codeIn K cd12 "is_term" = true) (k12 : PySem.W.keepIn K (.ref f12) = true)
    (a13 : PySem.W.nsIn K mainGlobals "are_lists" = some (some (.ref f13))) (l13 : K.lookup f13 = some ⟨oc13, od13, .func (PySem.W.fnOf "are_lists" "are_lists" (defArgs s_are_lists) (defBody s_are_lists) (defScope s_are_lists) .none kV13 dc13 pm13 an13 cd13 ct13), sl13⟩) (c13 : PySem.W.codeIn K cd13 "are_lists" = true) (k13 : PySem.W.keepIn K (.ref f13) = true)
    (a14 : PySem.W.nsIn K mainGlobals "is_pair" = some (some (.ref f14))) (l14 : K.lookup f14 = some ⟨oc14, od14, .func (PySem.W.fnOf "is_pair" "is_pair" (defArgs s_is_pair) (defBody s_is_pair) (defScope s_is_pair) .none kV14 dc14 pm14 an14 cd14 ct14), sl14⟩) (c14 : PySem.W.codeIn K cd14 "is_pair" = true) (k14 : PySem.W.keepIn K (.ref f14) = true)
    (a15 : PySem.W.nsIn K mainGlobals "are_pairs" = some (some (.ref f15))) (l15 : K.lookup f15 = some ⟨oc15, od15, .func (PySem.W.fnOf "are_pairs" "are_pairs" (defArgs s_are_pairs) (defBody s_are_pairs) (defScope s_are_pairs) .none kV15 dc15 pm15 an15 cd15 ct15), sl15⟩) (c15 : PySem.W.codeIn K cd15 "are_pairs" = true) (k15 : PySem.W.keepIn K (.ref f15) = true)
    (a16 : PySem.W.nsIn K mainGlobals "view_fits" = some (some (.ref f16))) (l16 : K.lookup f16 = some ⟨oc16, od16, .func (PySem.W.fnOf "view_fits" "view_fits" (defArgs s_view_fits) (defBody s_view_fits) (defScope s_view_fits) .none kV16 dc16 pm16 an16 cd16 ct16), sl16⟩) (c16 : PySem.W.codeIn K cd16 "view_fits" = true) (k16 : PySem.W.keepIn K (.ref f16) = true)
    (a17 : PySem.W.nsIn K mainGlobals "is_view" = some (some (.ref f17))) (l17 : K.lookup f17 = some ⟨oc17, od17, .func (PySem.W.fnOf "is_view" "is_view" (defArgs s_is_view) (defBody s_is_view) (defScope s_is_view) .none kV17 dc17 pm17 an17 cd17 ct17), sl17⟩) (c17 : PySem.W.codeIn K cd17 "is_view" = true) (k17 : PySem.W.keepIn K (.ref f17) = true)
    (a18 : PySem.W.nsIn K mainGlobals "_law_no_term" = some (some (.ref f18))) (l18 : K.lookup f18 = some ⟨oc18, od18, .func (PySem.W.fnOf "_law_no_term" "_law_no_term" (defArgs s_l_no_term) (defBody s_l_no_term) (defScope s_l_no_term) .none kV18 dc18 pm18 an18 cd18 ct18), sl18⟩) (c18 : PySem.W.codeIn K cd18 "_law_no_term" = true) (k18 : PySem.W.keepIn K (.ref f18) = true)
    (a19 : PySem.W.nsIn K mainGlobals "_law_bad_view" = some (some (.ref f19))) (l19 : K.lookup f19 = some ⟨oc19, od19, .func (PySem.W.fnOf "_law_bad_view" "_law_bad_view" (defArgs s_l_bad_view) (defBody s_l_bad_view) (defScope s_l_bad_view) .none kV19 dc19 pm19 an19 cd19 ct19), sl19⟩) (c19 : PySem.W.codeIn K cd19 "_law_bad_view" = true) (k19 : PySem.W.keepIn K (.ref f19) = true)
    (a20 : PySem.W.nsIn K mainGlobals "_law_view_spoiled" = some (some (.ref f20))) (l20 : K.lookup f20 = some ⟨oc20, od20, .func (PySem.W.fnOf "_law_view_spoiled" "_law_view_spoiled" (defArgs s_l_view_spoiled) (defBody s_l_view_spoiled) (defScope s_l_view_spoiled) .none kV20 dc20 pm20 an20 cd20 ct20), sl20⟩) (c20 : PySem.W.codeIn K cd20 "_law_view_spoiled" = true) (k20 : PySem.W.keepIn K (.ref f20) = true)
    (a21 : PySem.W.nsIn K mainGlobals "_law_view_deep" = some (some (.ref f21))) (l21 : K.lookup f21 = some ⟨oc21, od21, .func (PySem.W.fnOf "_law_view_deep" "_law_view_deep" (defArgs s_l_view_deep) (defBody s_l_view_deep) (defScope s_l_view_deep) .none kV21 dc21 pm21 an21 cd21 ct21), sl21⟩) (c21 : PySem.W.codeIn K cd21 "_law_view_deep" = true) (k21 : PySem.W.keepIn K (.ref f21) = true)
    (a22 : PySem.W.nsIn K mainGlobals "_law_measure_by" = some (some (.ref f22))) (l22 : K.lookup f22 = some ⟨oc22, od22, .func (PySem.W.fnOf "_law_measure_by" "_law_measure_by" (defArgs s_l_measure_by) (defBody s_l_measure_by) (defScope s_l_measure_by) .none kV22 dc22 pm22 an22 cd22 ct22), sl22⟩) (c22 : PySem.W.codeIn K cd22 "_law_measure_by" = true) (k22 : PySem.W.keepIn K (.ref f22) = true)
    (a23 : PySem.W.nsIn K mainGlobals "is_measure" = some (some (.ref f23))) (l23 : K.lookup f23 = some ⟨oc23, od23, .func (PySem.W.fnOf "is_measure" "is_measure" (defArgs s_is_measure) (defBody s_is_measure) (defScope s_is_measure) .none kV23 dc23 pm23 an23 cd23 ct23), sl23⟩) (c23 : PySem.W.codeIn K cd23 "is_measure" = true) (k23 : PySem.W.keepIn K (.ref f23) = true)
    (a24 : PySem.W.nsIn K mainGlobals "law" = some (some (.ref f24))) (l24 : K.lookup f24 = some ⟨oc24, od24, .func (PySem.W.fnOf "law" "law" (defArgs s_law) (defBody s_law) (defScope s_law) .none kV24 dc24 pm24 an24 cd24 ct24), sl24⟩) (c24 : PySem.W.codeIn K cd24 "law" = true) (k24 : PySem.W.keepIn K (.ref f24) = true)
    (z1 : PySem.W.nsIn K mainGlobals "len" = some none)
    (z2 : PySem.W.nsIn K mainGlobals "max" = some none)
    (z3 : PySem.W.nsIn K mainGlobals "tuple" = some none)
    (z4 : PySem.W.nsIn K mainGlobals "range" = some none)
    (z5 : PySem.W.nsIn K mainGlobals "isinstance" = some none)
    (z6 : PySem.W.nsIn K mainGlobals "str" = some none)
    (z7 : PySem.W.nsIn K mainGlobals "int" = some none)
    (z8 : PySem.W.nsIn K mainGlobals "bool" = some none)
    (z9 : PySem.W.nsIn K mainGlobals "all" = some none)
    (kg_GREATEST : PySem.W.nsIn K mainGlobals "GREATEST" = some (some (.int 1000000000000000000 tk1)))
    (kg_LETTERS : PySem.W.nsIn K mainGlobals "LETTERS" = some (some (.str "abcdefghijklmnopqrstuvwxyz" tk2)))
    (dg_PARTS : PySem.W.nsIn K mainGlobals "PARTS" = some (some (.ref D_PARTS)))
    (dw_PARTS : He.dicW K D_PARTS = some (He.keysIn w.params (k_PARTS.map (·.1))))
    (dv0_PARTS : PySem.W.nsIn K D_PARTS "not" = some (some (.int 1 dt0_PARTS)))
    (dv1_PARTS : PySem.W.nsIn K D_PARTS "add" = some (some (.int 2 dt1_PARTS)))
    (dv2_PARTS : PySem.W.nsIn K D_PARTS "sub" = some (some (.int 2 dt2_PARTS)))
    (dv3_PARTS : PySem.W.nsIn K D_PARTS "mul" = some (some (.int 2 dt3_PARTS)))
    (dv4_PARTS : PySem.W.nsIn K D_PARTS "quo" = some (some (.int 2 dt4_PARTS)))
    (dv5_PARTS : PySem.W.nsIn K D_PARTS "less" = some (some (.int 2 dt5_PARTS)))
    (dv6_PARTS : PySem.W.nsIn K D_PARTS "same" = some (some (.int 2 dt6_PARTS)))
    (dv7_PARTS : PySem.W.nsIn K D_PARTS "both" = some (some (.int 2 dt7_PARTS)))
    (dv8_PARTS : PySem.W.nsIn K D_PARTS "any" = some (some (.int 2 dt8_PARTS)))
    (dv9_PARTS : PySem.W.nsIn K D_PARTS "pick" = some (some (.int 3 dt9_PARTS)))
    : ∃ fd : FuncData, (∀ (s : Shared) (u : Value), BindsTo s fd ⟨[u], []⟩ [("_law_script", u)]) ∧ ∀ base : Heap, K.In base → base.Ns mainGlobals mg → FnOk P w K mg base (L2.CX P w) 33 fa fd ["_law_script"] (spD K mg 1 F_law) := by
  have e := hfa.symm.trans (PySem.W.mg_of X G a24)
  cases e
  have T : Txt K mg w := ⟨PySem.W.mg_none_of X G z1, PySem.W.mg_none_of X G z2, PySem.W.mg_none_of X G z3, PySem.W.mg_none_of X G z4, PySem.W.mg_none_of X G z5, PySem.W.mg_none_of X G z6, PySem.W.mg_none_of X G z7, PySem.W.mg_none_of X G z8, PySem.W.mg_none_of X G z9, (dct_mk (PySem.W.mg_of X G dg_PARTS) dw_PARTS (by decide +kernel) (fun p hp => by simp only [k_PARTS, List.mem_cons, List.not_mem_nil, or_false] at hp; rcases hp with rfl | rfl | rfl | rfl | rfl | rfl | rfl | rfl | rfl | rfl <;> first | exact ⟨_, dv0_PARTS⟩ | exact ⟨_, dv1_PARTS⟩ | exact ⟨_, dv2_PARTS⟩ | exact ⟨_, dv3_PARTS⟩ | exact ⟨_, dv4_PARTS⟩ | exact ⟨_, dv5_PARTS⟩ | exact ⟨_, dv6_PARTS⟩ | exact ⟨_, dv7_PARTS⟩ | exact ⟨_, dv8_PARTS⟩ | exact ⟨_, dv9_PARTS⟩)), (Con.int.at (PySem.W.mg_of X G kg_GREATEST)), (Con.str.at (PySem.W.mg_of X G kg_LETTERS))⟩
  have F1 := fun_mk (st := s_l_leaf_by) l1 c1 k1
  have b1 := F1.binds (ps := ["_law_cell"]) fun _ _ _ _ _ _ us hl => match us, hl with | [_], _ => rfl
  have F2 := fun_mk (st := s_l_grown) l2 c2 k2
  have b2 := F2.binds (ps := ["_law_cells"]) fun _ _ _ _ _ _ us hl => match us, hl with | [_], _ => rfl
  have F3 := fun_mk (st := s_l_lists_by) l3 c3 k3
  have b3 := F3.binds (ps := ["_law_cell", "_law_term"]) fun _ _ _ _ _ _ us hl => match us, hl with | [_, _], _ => rfl
  have F4 := fun_mk (st := s_l_pairs_by) l4 c4 k4
  have b4 := F4.binds (ps := ["_law_cell"]) fun _ _ _ _ _ _ us hl => match us, hl with | [_], _ => rfl
  have F5 := fun_mk (st := s_l_view_grown) l5 c5 k5
  have b5 := F5.binds (ps := ["_law_cells", "_law_terms"]) fun _ _ _ _ _ _ us hl => match us, hl with | [_, _], _ => rfl
  have F6 := fun_mk (st := s_headed) l6 c6 k6
  have b6 := F6.binds (ps := ["thing"]) fun _ _ _ _ _ _ us hl => match us, hl with | [_], _ => rfl
  have F7 := fun_mk (st := s_is_whole) l7 c7 k7
  have b7 := F7.binds (ps := ["thing"]) fun _ _ _ _ _ _ us hl => match us, hl with | [_], _ => rfl
  have F8 := fun_mk (st := s_lies_between) l8 c8 k8
  have b8 := F8.binds (ps := ["thing", "low", "high"]) fun _ _ _ _ _ _ us hl => match us, hl with | [_, _, _], _ => rfl
  have F9 := fun_mk (st := s_is_number) l9 c9 k9
  have b9 := F9.binds (ps := ["thing"]) fun _ _ _ _ _ _ us hl => match us, hl with | [_], _ => rfl
  have F10 := fun_mk (st := s_is_name) l10 c10 k10
  have b10 := F10.binds (ps := ["thing"]) fun _ _ _ _ _ _ us hl => match us, hl with | [_], _ => rfl
  have F11 := fun_mk (st := s_term_fits) l11 c11 k11
  have b11 := F11.binds (ps := ["thing", "deep"]) fun _ _ _ _ _ _ us hl => match us, hl with | [_, _], _ => rfl
  have F12 := fun_mk (st := s_is_term) l12 c12 k12
  have b12 := F12.binds (ps := ["thing"]) fun _ _ _ _ _ _ us hl => match us, hl with | [_], _ => rfl
  have F13 := fun_mk (st := s_are_lists) l13 c13 k13
  have b13 := F13.binds (ps := ["thing"]) fun _ _ _ _ _ _ us hl => match us, hl with | [_], _ => rfl
  have F14 := fun_mk (st := s_is_pair) l14 c14 k14
  have b14 := F14.binds (ps := ["thing"]) fun _ _ _ _ _ _ us hl => match us, hl with | [_], _ => rfl
  have F15 := fun_mk (st := s_are_pairs) l15 c15 k15
  have b15 := F15.binds (ps := ["thing"]) fun _ _ _ _ _ _ us hl => match us, hl with | [_], _ => rfl
  have F16 := fun_mk (st := s_view_fits) l16 c16 k16
  have b16 := F16.binds (ps := ["thing", "deep"]) fun _ _ _ _ _ _ us hl => match us, hl with | [_, _], _ => rfl
  have F17 := fun_mk (st := s_is_view) l17 c17 k17
  have b17 := F17.binds (ps := ["thing"]) fun _ _ _ _ _ _ us hl => match us, hl with | [_], _ => rfl
  have F18 := fun_mk (st := s_l_no_term) l18 c18 k18
  have b18 := F18.binds (ps := ["_law_cell", "_law_term"]) fun _ _ _ _ _ _ us hl => match us, hl with | [_, _], _ => rfl
  have F19 := fun_mk (st := s_l_bad_view) l19 c19 k19
  have b19 := F19.binds (ps := ["_law_cell", "_law_term", "_law_view"]) fun _ _ _ _ _ _ us hl => match us, hl with | [_, _, _], _ => rfl
  have F20 := fun_mk (st := s_l_view_spoiled) l20 c20 k20
  have b20 := F20.binds (ps := ["_law_view", "_law_cell", "_law_bad", "_law_term"]) fun _ _ _ _ _ _ us hl => match us, hl with | [_, _, _, _], _ => rfl
  have F21 := fun_mk (st := s_l_view_deep) l21 c21 k21
  have b21 := F21.binds (ps := ["_law_view"]) fun _ _ _ _ _ _ us hl => match us, hl with | [_], _ => rfl
  have F22 := fun_mk (st := s_l_measure_by) l22 c22 k22
  have b22 := F22.binds (ps := ["_law_cell", "_law_term"]) fun _ _ _ _ _ _ us hl => match us, hl with | [_, _], _ => rfl
  have F23 := fun_mk (st := s_is_measure) l23 c23 k23
  have b23 := F23.binds (ps := ["thing"]) fun _ _ _ _ _ _ us hl => match us, hl with | [_], _ => rfl
  have F24 := fun_mk (st := s_law) l24 c24 k24
  have b24 := F24.binds (ps := ["_law_script"]) fun _ _ _ _ _ _ us hl => match us, hl with | [_], _ => rfl
  refine ⟨PySem.W.fnOf "law" "law" (defArgs s_law) (defBody s_law) (defScope s_law) .none kV24 dc24 pm24 an24 cd24 ct24, fun s v => .of_eq rfl, fun base _ _ => ?_⟩
  have h_l_leaf_by : CallOk P w K mg base 1 "_law_leaf_by" ["_law_cell"] F_l_leaf_by := ⟨f1, _, PySem.W.mg_of X G a1, k1, b1, ok_l_leaf_by T F1 ⟩
  have h_l_grown : CallOk P w K mg base 2 "_law_grown" ["_law_cells"] F_l_grown := ⟨f2, _, PySem.W.mg_of X G a2, k2, b2, ok_l_grown T F2 (h_l_leaf_by.up (by decide))⟩
  have h_l_lists_by : CallOk P w K mg base 1 "_law_lists_by" ["_law_cell", "_law_term"] F_l_lists_by := ⟨f3, _, PySem.W.mg_of X G a3, k3, b3, ok_l_lists_by T F3 ⟩
  have h_l_pairs_by : CallOk P w K mg base 1 "_law_pairs_by" ["_law_cell"] F_l_pairs_by := ⟨f4, _, PySem.W.mg_of X G a4, k4, b4, ok_l_pairs_by T F4 ⟩
  have h_l_view_grown : CallOk P w K mg base 2 "_law_view_grown" ["_law_cells", "_law_terms"] F_l_view_grown := ⟨f5, _, PySem.W.mg_of X G a5, k5, b5, ok_l_view_grown T F5 (h_l_lists_by.up (by decide)) (h_l_pairs_by.up (by decide))⟩
  have h_headed : CallOk P w K mg base 1 "headed" ["thing"] F_headed := ⟨f6, _, PySem.W.mg_of X G a6, k6, b6, ok_headed T F6 ⟩
  have h_is_whole : CallOk P w K mg base 1 "is_whole" ["thing"] F_is_whole := ⟨f7, _, PySem.W.mg_of X G a7, k7, b7, ok_is_whole T F7 ⟩
  have h_lies_between : CallOk P w K mg base 2 "lies_between" ["thing", "low", "high"] F_lies_between := ⟨f8, _, PySem.W.mg_of X G a8, k8, b8, ok_lies_between T F8 (h_is_whole.up (by decide))⟩
  have h_is_number : CallOk P w K mg base 3 "is_number" ["thing"] F_is_number := ⟨f9, _, PySem.W.mg_of X G a9, k9, b9, ok_is_number T F9 (h_lies_between.up (by decide))⟩
  have h_is_name : CallOk P w K mg base 1 "is_name" ["thing"] F_is_name := ⟨f10, _, PySem.W.mg_of X G a10, k10, b10, ok_is_name T F10 ⟩
  have r_term_fits : ∀ n, CallOk P w K mg base (3 + n) "term_fits" ["thing", "deep"] (R_term_fits n) := fun n => by
    induction n with
    | zero => exact ⟨f11, _, PySem.W.mg_of X G a11, k11, b11, fn_bad fun _ => rfl⟩
    | succ n ih => exact ⟨f11, _, PySem.W.mg_of X G a11, k11, b11, ok_term_fits T F11 (h_headed.up (k := 3 + n) (Nat.le_trans (by decide : 1 ≤ 3) (Nat.le_add_right 3 n))) (h_is_number.up (k := 3 + n) (Nat.le_trans (by decide : 3 ≤ 3) (Nat.le_add_right 3 n))) (h_lies_between.up (k := 3 + n) (Nat.le_trans (by decide : 2 ≤ 3) (Nat.le_add_right 3 n))) (h_is_name.up (k := 3 + n) (Nat.le_trans (by decide : 1 ≤ 3) (Nat.le_add_right 3 n))) ih⟩
  have h_term_fits : CallOk P w K mg base 17 "term_fits" ["thing", "deep"] F_term_fits := r_term_fits 14
  have h_is_term : CallOk P w K mg base 18 "is_term" ["thing"] F_is_term := ⟨f12, _, PySem.W.mg_of X G a12, k12, b12, ok_is_term T F12 (h_term_fits.up (by decide))⟩
  have h_are_lists : CallOk P w K mg base 19 "are_lists" ["thing"] F_are_lists := ⟨f13, _, PySem.W.mg_of X G a13, k13, b13, ok_are_lists T F13 (h_is_term.up (by decide))⟩
  have h_is_pair : CallOk P w K mg base 4 "is_pair" ["thing"] F_is_pair := ⟨f14, _, PySem.W.mg_of X G a14, k14, b14, ok_is_pair T F14 (h_is_number.up (by decide))⟩
  have h_are_pairs : CallOk P w K mg base 5 "are_pairs" ["thing"] F_are_pairs := ⟨f15, _, PySem.W.mg_of X G a15, k15, b15, ok_are_pairs T F15 (h_is_pair.up (by decide))⟩
  have r_view_fits : ∀ n, CallOk P w K mg base (19 + n) "view_fits" ["thing", "deep"] (R_view_fits n) := fun n => by
    induction n with
    | zero => exact ⟨f16, _, PySem.W.mg_of X G a16, k16, b16, fn_bad fun _ => rfl⟩
    | succ n ih => exact ⟨f16, _, PySem.W.mg_of X G a16, k16, b16, ok_view_fits T F16 (h_headed.up (k := 19 + n) (Nat.le_trans (by decide : 1 ≤ 19) (Nat.le_add_right 19 n))) (h_is_term.up (k := 19 + n) (Nat.le_trans (by decide : 18 ≤ 19) (Nat.le_add_right 19 n))) ih (h_are_lists.up (k := 19 + n) (Nat.le_trans (by decide : 19 ≤ 19) (Nat.le_add_right 19 n))) (h_lies_between.up (k := 19 + n) (Nat.le_trans (by decide : 2 ≤ 19) (Nat.le_add_right 19 n))) (h_are_pairs.up (k := 19 + n) (Nat.le_trans (by decide : 5 ≤ 19) (Nat.le_add_right 19 n)))⟩
  have h_view_fits : CallOk P w K mg base 31 "view_fits" ["thing", "deep"] F_view_fits := r_view_fits 12
  have h_is_view : CallOk P w K mg base 32 "is_view" ["thing"] F_is_view := ⟨f17, _, PySem.W.mg_of X G a17, k17, b17, ok_is_view T F17 (h_view_fits.up (by decide))⟩
  have h_l_no_term : CallOk P w K mg base 1 "_law_no_term" ["_law_cell", "_law_term"] F_l_no_term := ⟨f18, _, PySem.W.mg_of X G a18, k18, b18, ok_l_no_term T F18 ⟩
  have h_l_bad_view : CallOk P w K mg base 2 "_law_bad_view" ["_law_cell", "_law_term", "_law_view"] F_l_bad_view := ⟨f19, _, PySem.W.mg_of X G a19, k19, b19, ok_l_bad_view T F19 (h_l_no_term.up (by decide))⟩
  have r_l_view_spoiled : ∀ n, CallOk P w K mg base (2 + n) "_law_view_spoiled" ["_law_view", "_law_cell", "_law_bad", "_law_term"] (R_l_view_spoiled n) := fun n => by
    induction n with
    | zero => exact ⟨f20, _, PySem.W.mg_of X G a20, k20, b20, fn_bad fun _ => rfl⟩
    | succ n ih => exact ⟨f20, _, PySem.W.mg_of X G a20, k20, b20, ok_l_view_spoiled T F20 (h_l_bad_view.up (k := 2 + n) (Nat.le_trans (by decide : 2 ≤ 2) (Nat.le_add_right 2 n))) ih⟩
  have h_l_view_spoiled : CallOk P w K mg base 14 "_law_view_spoiled" ["_law_view", "_law_cell", "_law_bad", "_law_term"] F_l_view_spoiled := r_l_view_spoiled 12
  have r_l_view_deep : ∀ n, CallOk P w K mg base (0 + n) "_law_view_deep" ["_law_view"] (R_l_view_deep n) := fun n => by
    induction n with
    | zero => exact ⟨f21, _, PySem.W.mg_of X G a21, k21, b21, fn_bad fun _ => rfl⟩
    | succ n ih => exact ⟨f21, _, PySem.W.mg_of X G a21, k21, b21, ok_l_view_deep T F21 ih⟩
  have h_l_view_deep : CallOk P w K mg base 12 "_law_view_deep" ["_law_view"] F_l_view_deep := r_l_view_deep 12
  have h_l_measure_by : CallOk P w K mg base 2 "_law_measure_by" ["_law_cell", "_law_term"] F_l_measure_by := ⟨f22, _, PySem.W.mg_of X G a22, k22, b22, ok_l_measure_by T F22 (h_l_no_term.up (by decide))⟩
  have h_is_measure : CallOk P w K mg base 19 "is_measure" ["thing"] F_is_measure := ⟨f23, _, PySem.W.mg_of X G a23, k23, b23, ok_is_measure T F23 (h_headed.up (by decide)) (h_is_term.up (by decide)) (h_lies_between.up (by decide))⟩
  exact ok_law T F24 (h_l_grown.up (by decide)) (h_l_view_grown.up (by decide)) (h_is_view.up (by decide)) (h_l_view_spoiled.up (by decide)) (h_l_view_deep.up (by decide)) (h_l_measure_by.up (by decide)) (h_is_measure.up (by decide))
end DLaw
open PySem PySem.W PyProof.Rows
set_option maxRecDepth 100000 in
set_option maxHeartbeats 0 in
theorem PySem.Challenge.cw_blurdesk_k40_views_and_measures_holds : PySem.Challenge.rw_blurdesk_k40_views_and_measures.Holds := by
  w_on; o_law; k_head; (case hw => w_witness2)
  k_fill
  refine DL.endW (l := PySem.Challenge.rw_blurdesk_k40_views_and_measures) (k := 33) (F := DLaw.F_law) (x := "_law_script") rfl rfl (by decide) (fun w h Y => PySem.W.kIn_of Y) ?F DLaw.law_holds
  case F =>
    intro w mg fa h KX G hmg
    refine' DLaw.all_mk KX G hmg ?a1 ?l1 ?c1 ?k1 ?a2 ?l2 ?c2 ?k2 ?a3 ?l3 ?c3 ?k3 ?a4 ?l4 ?c4 ?k4 ?a5 ?l5 ?c5 ?k5 ?a6 ?l6 ?c6 ?k6 ?a7 ?l7 ?c7 ?k7 ?a8 ?l8 ?c8 ?k8 ?a9 ?l9 ?c9 ?k9 ?a10 ?l10 ?c10 ?k10 ?a11 ?l11 ?c11 ?k11 ?a12 ?l12 ?c12 ?k12 ?a13 ?l13 ?c13 ?k13 ?a14 ?l14 ?c14 ?k14 ?a15 ?l15 ?c15 ?k15 ?a16 ?l16 ?c16 ?k16 ?a17 ?l17 ?c17 ?k17 ?a18 ?l18 ?c18 ?k18 ?a19 ?l19 ?c19 ?k19 ?a20 ?l20 ?c20 ?k20 ?a21 ?l21 ?c21 ?k21 ?a22 ?l22 ?c22 ?k22 ?a23 ?l23 ?c23 ?k23 ?a24 ?l24 ?c24 ?k24 ?z1 ?z2 ?z3 ?z4 ?z5 ?z6 ?z7 ?z8 ?z9 ?kg_GREATEST ?kg_LETTERS ?dg_PARTS ?dw_PARTS ?dv0_PARTS ?dv1_PARTS ?dv2_PARTS ?dv3_PARTS ?dv4_PARTS ?dv5_PARTS ?dv6_PARTS ?dv7_PARTS ?dv8_PARTS ?dv9_PARTS
    (case a1 => k_is); (case l1 => k_is); (case c1 => k_is); (case k1 => k_is); (case a2 => k_is); (case l2 => k_is)
    (case c2 => k_is); (case k2 => k_is); (case a3 => k_is); (case l3 => k_is); (case c3 => k_is); (case k3 => k_is)
    (case a4 => k_is); (case l4 => k_is); (case c4 => k_is); (case k4 => k_is); (case a5 => k_is); (case l5 => k_is)
    (case c5 => k_is); (case k5 => k_is); (case a6 => k_is); (case l6 => k_is); (case c6 => k_is); (case k6 => k_is)
    (case a7 => k_is); (case l7 => k_is); (case c7 => k_is); (case k7 => k_is); (case a8 => k_is); (case l8 => k_is)
    (case c8 => k_is); (case k8 => k_is); (case a9 => k_is); (case l9 => k_is); (case c9 => k_is); (case k9 => k_is)
    (case a10 => k_is); (case l10 => k_is); (case c10 => k_is); (case k10 => k_is); (case a11 => k_is); (case l11 => k_is)
    (case c11 => k_is); (case k11 => k_is); (case a12 => k_is); (case l12 => k_is); (case c12 => k_is); (case k12 => k_is)
    (case a13 => k_is); (case l13 => k_is); (case c13 => k_is); (case k13 => k_is); (case a14 => k_is); (case l14 => k_is)
    (case c14 => k_is); (case k14 => k_is); (case a15 => k_is); (case l15 => k_is); (case c15 => k_is); (case k15 => k_is)
    (case a16 => k_is); (case l16 => k_is); (case c16 => k_is); (case k16 => k_is); (case a17 => k_is); (case l17 => k_is)
    (case c17 => k_is); (case k17 => k_is); (case a18 => k_is); (case l18 => k_is); (case c18 => k_is); (case k18 => k_is)
    (case a19 => k_is); (case l19 => k_is); (case c19 => k_is); (case k19 => k_is); (case a20 => k_is); (case l20 => k_is)
    (case c20 => k_is); (case k20 => k_is); (case a21 => k_is); (case l21 => k_is); (case c21 => k_is); (case k21 => k_is)
    (case a22 => k_is); (case l22 => k_is); (case c22 => k_is); (case k22 => k_is); (case a23 => k_is); (case l23 => k_is)
    (case c23 => k_is); (case k23 => k_is); (case a24 => k_is); (case l24 => k_is); (case c24 => k_is); (case k24 => k_is)
    (case z1 => k_is); (case z2 => k_is); (case z3 => k_is); (case z4 => k_is); (case z5 => k_is); (case z6 => k_is)
    (case z7 => k_is); (case z8 => k_is); (case z9 => k_is); (case kg_GREATEST => k_is); (case kg_LETTERS => k_is); (case dg_PARTS => k_is)
    (case dw_PARTS => first | rfl | k_is); (case dv0_PARTS => k_is); (case dv1_PARTS => k_is); (case dv2_PARTS => k_is); (case dv3_PARTS => k_is); (case dv4_PARTS => k_is)
    (case dv5_PARTS => k_is); (case dv6_PARTS => k_is); (case dv7_PARTS => k_is); (case dv8_PARTS => k_is); (case dv9_PARTS => k_is)
#print axioms PySem.Challenge.cw_blurdesk_k40_views_and_measures_holds
